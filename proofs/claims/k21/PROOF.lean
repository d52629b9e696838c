import PyProof.Rows.All
import Wide.All
import OpenK.AllK
import Wide.FinOn
import KE.KExcSuper
import HandS.ForMost
import HandS.Exc
import HandS.ExcInit
import HandS.ExcCtx
import HandS.HotCalls
import HandS.ExcInitHot
import HandS.ExcIs
import HandS.More
import HandS.IsInst
import HandS.ExcField
import HandS.CallSlots
import HandS.TryMany
import HandS.Text
import HandS.Zip
import KE.KExcIs
import HandS.ClsMeth
import HandS.StrMore
import HandS.Sort
import HandS.Conv
import HandS.Codes
import HandS.Comp
import HandS.TupLe
import HandS.Dict
import PyProof.TupleIter
import HandS.Deep
import HandS.Style
import PyProof.SliceList
import PySem.Challenge.RW_latelink_k21_whole_loss_certificates
set_option Elab.async false
set_option linter.all false
set_option maxRecDepth 100000
set_option maxHeartbeats 4000000
/-! own exceptions whose __init__ is: super().__init__('text'); self.f = f, .. -/
namespace LkX
open PySem PySem.W PySem.Calls PyProof.Rows PySem.HandSPX

/-- the stores: self.f = f, for the names in turn -/
inductive Stores : List Str → List Stmt → Prop
  | nil : Stores [] []
  | cons {f : Str} {fs : List Str} {ss : List Stmt} {q1 q2 q3 q4 : Pos} : Stores fs ss → Stores (f :: fs) (.Assign [.Attribute (.Name "self" q1) f q2] (.Name f q3) q4 :: ss)
/-- the whole body -/
def InitBody (fs : List Str) (body : List Stmt) : Prop := ∃ (m : Str) (j : Nat) (p0 p1 p2 p3 p4 p5 : Pos) (ss : List Stmt),
  body = .Expr (.Call (.Attribute (.Call (.Name "super" p0) [] [] p1) "__init__" p2) [.Constant (.str m) j p3] [] p4) p5 :: ss ∧ (p2.endLine == p4.line) = true ∧ Stores fs ss

/-- what the written part says of the class x at C, its __init__ at fI, its fields' names fs -/
structure ExcTxt (prog : Program) (K : Frag) (C fI : Addr) (fs : List Str) : Prop where
  cls : ∃ nm q N bs bm sn sub ab col dd k0 k1 k2 k3 k5, K.lookup C = some (excClassObj nm q C N bs bm true sn sub ab col dd k0 k1 k2 k3 k5 "ValueError.__new__") ∧ refsVE bm = true
  sa : findIn K (.ref C) "__setattr__" = some (some (.builtin "object.__setattr__"))
  noN : ∀ f ∈ fs, findIn K (.ref C) f = some none
  iC : findIn K (.ref C) "__init__" = some (some (.ref fI))
  tI : typeIn K (.ref fI) = some (.type "function")
  kC : keepIn K (.ref C) = true
  exC : subIn K (.ref C) (.type "BaseException") = some true
  tyC : typeIn K (.ref C) = some (.type "type")
  vE : subIn K (.ref C) (.type "ValueError") = some true
  su : ks_superIn K C C "__init__" = some (some (.builtin "ValueError.__init__"))
  op : nsIn K cStatics "thirdparty.any" = some none
  gs : nsIn K mainGlobals "super" = some none
  fn : ∃ (qual : Str) (params : Arguments) (body : List Stmt) (scope : Scope) (oc : Value) (od : Option Addr) (doc pm : Value) (an : Option Addr) (cda : Addr) (ct : Value) (cc : Addr) (osl : Array (Option Value)) (ccl : Value) (cdd : Option Addr) (cvs : Array Value) (ccs : Array (Option Value)) (file : Str) (tf : Tok) (cl : Value) (cld : Option Addr) (csl : Array (Option Value)) (ar : Arg),
    K.lookup fI = some ⟨oc, od, .func (ksFn "__init__" qual params body scope .none .none doc pm an (.ref cda) ct cc), osl⟩ ∧ codeIn K (.ref cda) qual = true ∧
    K.lookup cda = some ⟨ccl, cdd, .fields cvs, ccs⟩ ∧ cvs[2]? = some (.str file tf) ∧ ((prog.main.file : Str) == file) = true ∧
    K.lookup cc = some ⟨cl, cld, .cell (some (.ref C)), csl⟩ ∧ InitBody fs body ∧ (params.posonlyargs ++ params.args).head? = some ar ∧ ar.arg = "self" ∧
    (prog.main.scope.names.lookup ("super" : Str)).isSome = false ∧
    scope.names.lookup ("super" : Str) = some .globalImplicit ∧ scope.names.lookup ("__class__" : Str) = some .free ∧ (∀ x ∈ scope.names, x.2 ≠ .cell) ∧
    (∀ f ∈ ("self" : Str) :: fs, scope.names.lookup f = some .local) ∧ scope.isCoroutine = false ∧ scope.isGenerator = false ∧ scope.kind = .function ∧
    (∀ us : List Value, us.length = (("self" : Str) :: fs).length → bindArgs (ksFn "__init__" qual params body scope .none .none doc pm an (.ref cda) ct cc) ⟨us, []⟩ = pure ((("self" : Str) :: fs).zip us))
  nd : (("self" : Str) :: fs).Nodup
  nb : ∀ f ∈ ("self" : Str) :: fs, (f == ("__debug__" : Str)) = false
  few : fs.length ≤ 100

theorem lookup_zip : ∀ {ns : List Str} {vs : List Value} {i : Nat} {f : Str} {v : Value}, ns.Nodup → ns[i]? = some f → vs[i]? = some v → (ns.zip vs).reverse.lookup f = some v := by
  intro ns
  induction ns with
  | nil => intro vs i f v _ h; simp at h
  | cons n ns ih =>
    intro vs i f v hd hf hv
    cases vs with
    | nil => simp at hv
    | cons u vs =>
      have hd' := List.nodup_cons.mp hd
      rw [List.zip_cons_cons, List.reverse_cons, List.lookup_append]
      cases i with
      | zero =>
        simp at hf hv
        subst hf; subst hv
        have hno : (ns.zip vs).reverse.lookup n = none := by
          cases hq : (ns.zip vs).reverse.lookup n with
          | none => rfl
          | some w =>
            have := PySem.mem_of_lookup hq
            rw [List.mem_reverse] at this
            exact absurd (List.of_mem_zip this).1 hd'.1
        rw [hno]
        simp [List.lookup]
      | succ i =>
        simp at hf hv
        rw [ih hd'.2 hf hv]
        rfl

theorem mcall_plain {o e : Expr} {name : Str} {apos pos : Pos} {env : Env} (h : (apos.endLine == pos.line) = true) (he : starEach [e] env = [(false, eval e env)] := by rfl) :
    eval (.Call (.Attribute o name apos) [e] [] pos) env = (do
      let ov ← attributeBase o name env (eval o env)
      standAt apos.atName
      let (f, first) ← holding [ov] (getMethod ov name (do return (← importBound o env).getD true))
      callWith pos f first (backTo pos (starEach [e] env)) []) := by
  rw [arm_eval_Call, he]
  unfold methodCall methodCallPos calleeOf
  rw [h]
  rfl
theorem quiet_of {env : Env} (h : env.scope.kind = .function) : interactive env = false := by simp [interactive, h]
theorem callWith1 {M : Model} {A : Around} {E : Value → Shared → Prop} {s : Shared} {i : String} {x u : Addr} {pos : Pos} {env : Env} {e : Expr} {rest : List Expr} {Q : Value → Shared → Prop}
    (h : wpAny M A (spliced (backTo pos (starEach (e :: rest) env))) (fun vs s₁ => KxsAt i u x s₁.heap ∧ wpAny M A (call (.ref u) vs) Q E s₁) E s)
    (he : starEach (e :: rest) env = (false, eval e env) :: starEach rest env := by rfl) (hplain : (backTo pos (starEach rest env)).any (·.1) = false := by rfl) :
    wpAny M A (callWith pos (.ref u) [] (backTo pos (starEach (e :: rest) env)) []) Q E s := by
  rw [he] at h ⊢
  refine kxs_callWith (i := i) (x := x) (by show (false || (backTo pos (starEach rest env)).any (·.1)) = false; rw [hplain]; rfl) ?_
  exact evalArgs_plain h
theorem spl1 {M : Model} {A : Around} {E : Value → Shared → Prop} {s : Shared} {pos : Pos} {env : Env} {e : Expr} {Q : List Value → Shared → Prop} (h : wpAny M A (eval e env) (fun v s₁ => Q [v] s₁) E s) (he : starEach [e] env = [(false, eval e env)] := by rfl) :
    wpAny M A (spliced (backTo pos (starEach [e] env))) Q E s := by
  rw [he]
  show wpAny _ _ (spliced ((false, eval e env) :: [])) _ _ s
  exact Calls.spliced_cons (wpAny_mono h (fun v s1 q => Calls.spliced_nil q) fun _ _ z => z)
/-- what __init__ leaves of the exception at x: its dict at dx holds m -/
structure InitEnd (h h' : Heap) (x C : Addr) (fs : List Str) (vs : List Value) : Prop where
  keep : ∀ b o, b ≠ x → h.get? b = some o → h'.get? b = some o
  fin : ∃ (t1 dx : Addr), h'.get? x = some ({ cls := .ref C, dict := some dx, data := .fields #[.ref t1, .none, .none, .none, .bool false, .none] } : Obj) ∧ h.objs.size ≤ dx ∧ dx ≠ x ∧
    ∃ mA, h'.Ns1 dx mA ∧ (∀ (i : Nat) (f : Str) (v : Value), fs[i]? = some f → vs[i]? = some v → mA f = some v) ∧ ∀ f, f ∉ fs → mA f = none

section
variable {prog : Program} {w : World} {A : Around} {E : Value → Shared → Prop} {R : Result → Shared → Prop} {K : Frag} {C fI : Addr} {fs : List Str}

theorem ldE {M : Model} {s : Shared} {env : Env} {m : Str → Option Value} {x : Str} {pos : Pos} {v : Value} {Q : Value → Shared → Prop} (hn : s.heap.Ns env.locals m) (hv : m x = some v) (h : Q v s)
    (hk : env.scope.kind = .function) (hl : env.kindOf x = some .local) (hd : (x == ("__debug__" : Str)) = false) : wpAny M A (eval (.Name x pos) env) Q E s := wpAny_Name (wpAny_loadName_local hk hl hn hv h) hd

/-- further stores: the dict is there -/
theorem stores_old (T : ExcTxt prog K C fI fs) {env : Env} {x t1 dx : Addr} (hk : env.scope.kind = .function) {N : Str → Option Value} (hself : N "self" = some (.ref x)) (hls : env.kindOf "self" = some .local) :
    ∀ (gs : List Str) (ss : List Stmt) (s : Shared) (mA : Str → Option Value) (nl : List Str) {Q : Flow → Shared → Prop}, Stores gs ss → (∀ f ∈ gs, f ∈ fs ∧ env.kindOf f = some .local ∧ ∃ v, N f = some v) → K.In s.heap → s.heap.Ns env.locals N → env.locals ≠ x → env.locals ≠ dx →
    s.heap.get? x = some ({ cls := .ref C, dict := some dx, data := .fields #[.ref t1, .none, .none, .none, .bool false, .none] } : Obj) → s.heap.Ns1 dx mA → Within mA nl → nl.length + gs.length ≤ 1000 → K.lookup dx = none → dx ≠ x → gs.Nodup →
    (∀ h' tk mB, (∀ b o, b ≠ dx → s.heap.get? b = some o → h'.get? b = some o) → h'.Ns1 dx mB → (∀ f ∈ gs, mB f = N f) → (∀ f, f ∉ gs → mB f = mA f) → Q .next { s with heap := h', toks := tk }) →
    wpAny (model prog w) A (execs ss env) Q E s := by
  obtain ⟨nm, q, N0, bs, bm, sn, sub, ab, col, dd, k0, k1, k2, k3, k5, hC, hbm⟩ := T.cls
  have hcl : clsIn K C = some { name := nm, bases := bs, mro := .ref C :: bm, ns := N0, qualname := q, hasDict := true, slotNames := sn, subclasses := sub, abstract := ab, collection := col, hasDel := false } := by unfold clsIn; rw [hC] <;> rfl
  intro gs
  induction gs with
  | nil =>
    intro ss s mA nl Q hS _ _ _ _ _ _ hn _ _ _ _ _ hq
    cases hS
    obtain ⟨hp, g, d, t, os⟩ := s
    exact wpAny_execs_nil (hq hp t mA (fun _ _ _ e => e) hn (fun _ h => absurd h List.not_mem_nil) fun _ _ => rfl)
  | cons f gs ih =>
    intro ss s mA nl Q hS hf hKI hns hLx hLd hx hn hw hz hKd hdx hnd hq
    cases hS with
    | cons hS' =>
      obtain ⟨hfm, hfl, v, hv⟩ := hf f List.mem_cons_self
      obtain ⟨oD, _, _, hoD, _, _⟩ := hn.count hw
      refine wpAny_execs_cons (plainObj_wpAny_Assign_Attribute ?_)
      refine ldE hns hv (ldE hns hself ?_ hk hls (T.nb _ List.mem_cons_self)) hk hfl (T.nb _ (List.mem_cons_of_mem _ hfm))
      obtain ⟨hp, g, d, t, os⟩ := s
      refine set_plain hKI (ox := { cls := .ref C, dict := some dx, data := .fields #[.ref t1, .none, .none, .none, .bool false, .none] }) (od := some oD) ⟨hx, rfl, rfl, hoD⟩ T.sa ?_
      refine PySem.OEX.osa_old hKI hx hn hw (by simp at hz; omega) hcl (show refsVE (.ref C :: bm) = true from hbm) rfl (T.noN f hfm) (fun h' tk' k hn' => ?_)
      have kK : K.In h' := fun a o e => k a o (fun z => by rw [z, hKd] at e; cases e) (hKI a o e)
      have hns' : h'.Ns env.locals N := by
        obtain ⟨o, es, ep, ho, hr⟩ := hns
        exact ⟨o, es, ep, k _ _ hLd ho, hr⟩
      refine ih _ ⟨h', g, d, tk', os⟩ (fun y => if y = f then some v else mA y) (f :: nl) hS' (fun f' hf' => hf f' (List.mem_cons_of_mem _ hf')) kK hns' hLx hLd (k _ _ hdx.symm hx) hn' (Within.cons f v hw) (by simp at hz ⊢; omega) hKd hdx (List.nodup_cons.mp hnd).2 ?_
      intro h2 tk2 mB k2 hnB hB hB'
      refine hq h2 tk2 mB (fun b o hb e => k2 b o hb (k b o hb e)) hnB (fun f' hf' => ?_) fun f' hf' => ?_
      · rcases List.mem_cons.mp hf' with e | hf'
        · subst e
          rw [hB' _ (List.nodup_cons.mp hnd).1, if_pos rfl, hv]
        · exact hB f' hf'
      · rw [hB' f' (fun z => hf' (List.mem_cons_of_mem _ z)), if_neg (fun z => hf' (by rw [z]; exact List.mem_cons_self))]

/-- super().__init__('m') called: the built-in's part -/
theorem call_init {u x t0 : Addr} {rest : List Value} {s : Shared} {Q : Value → Shared → Prop} (T : ExcTxt prog K C fI fs) (X : K.In s.heap) (hu : s.heap.get? u = some (kxs_mw "ValueError.__init__" x)) (hx : s.heap.get? x = some (excO C t0)) (hz : rest.length ≤ sizeLine)
    (hq : ∀ h' t1, (∀ b o, b ≠ x → s.heap.get? b = some o → h'.get? b = some o) → h'.get? x = some (excO C t1) → Q .none { s with heap := h' }) : wpAny (model prog w) A (call (.ref u) rest) Q E s := by
  obtain ⟨nm, q, N0, bs, bm, sn, sub, ab, col, dd, k0, k1, k2, k3, k5, hC, hbm⟩ := T.cls
  obtain ⟨hh, g, d, tk, os⟩ := s
  refine wpAny_call (codeAny_of_tree ?_)
  show wpAny _ A.in1 (callAny (.ref u) ⟨rest, []⟩) _ _ _
  simp only [callAny]
  refine wpAny_bind (wpAny_load hu ?_)
  simp only [kxs_mw, show (Value.type "method-wrapper" == Value.type "method" || Value.type "method-wrapper" == Value.type "builtin_function_or_method" || Value.type "method-wrapper" == Value.type "method-wrapper") = true by decide, if_true]
  refine KFB.if_so (by decide) ?_
  refine wpAny_bind (check_bound_init F.excBase_ValueError.toExcCallFacts (X _ _ hC) hx rfl ?_)
  refine wpAny_bind (wpAny_pure (wpAny_pure ?_))
  refine ⟨plainId_quiet F.excBase_ValueError.init.plain _, codeAny_builtin F.excBase_ValueError.initEntry ?_⟩
  exact exc_init_tree (cls := .ref C) (t0 := t0) (dv := none) (c2 := .none) (c3 := .none) (b4 := .bool false) hx hz fun h' k e' _ => hq h' _ k e'

theorem exc_init (T : ExcTxt prog K C fI fs) {x t0 : Addr} {vs : List Value} {s : Shared} {mg mb : Str → Option Value} (hfs : fs ≠ []) (hlen : vs.length = fs.length) (X : K.In s.heap) (hlim : s.heap.NoLimit) (hg : s.heap.Ns mainGlobals mg) (hb : s.heap.Ns builtinsNs mb) (hbs : mb "super" = some (.type "super")) (hx : s.heap.get? x = some (excO C t0)) (hnx : K.lookup x = none) (hroom : A.depth < recursionLimit)
    (hq : ∀ h' tk, InitEnd s.heap h' x C fs vs → R (.ok (.ret .none)) { s with heap := h', toks := tk }) :
    codeAny (model prog w) A (.call (.ref fI) ⟨.ref x :: vs, []⟩) R s := by
  obtain ⟨qual, params, body, scope, oc, od, doc, pm, an, cda, ct, cc, osl, ccl, cdd, cvs, ccs, file, tf, cl, cld, csl, ar, ho, hcd, hcda, hc2, hfile, hcell, ⟨m, j, p0, p1, p2, p3, p4, p5, ss, rfl, hpl, hS⟩, har, hself, htop, hsu, hcls, hnc, hloc, hco, hgen, hk, hbind⟩ := T.fn
  obtain ⟨nm, q, N0, bs, bm, sn, sub, ab, col, dd, k0, k1, k2, k3, k5, hC, hbm⟩ := T.cls
  have hcl : clsIn K C = some { name := nm, bases := bs, mro := .ref C :: bm, ns := N0, qualname := q, hasDict := true, slotNames := sn, subclasses := sub, abstract := ab, collection := col, hasDel := false } := by unfold clsIn; rw [hC] <;> rfl
  refine ks_codeAny_call_defAt (binds := (("self" : Str) :: fs).zip (.ref x :: vs)) hroom (X _ _ ho) rfl hlim (codeRec_of X hcd) rfl (BindsTo.of_eq (hbind _ (by simp [hlen]))) hnc (fun y hy => hloc _ (List.of_mem_zip (show (y.1, y.2) ∈ _ from hy)).1) (fun h₀ hns hk₀ => ?_) hco hgen hk
  have X0 : K.In h₀ := X.keeps hk₀
  have nself : (((("self" : Str) :: fs).zip (Value.ref x :: vs)).reverse).lookup ("self" : Str) = some (Value.ref x) := lookup_zip (i := 0) T.nd rfl rfl
  have nfld : ∀ (i : Nat) (f : Str) (v : Value), fs[i]? = some f → vs[i]? = some v → (((("self" : Str) :: fs).zip (Value.ref x :: vs)).reverse).lookup f = some v := fun i f v h1 h2 => lookup_zip (i := i + 1) T.nd (by simpa using h1) (by simpa using h2)
  have hx0 := hk₀ _ _ hx
  have hLs : s.heap.objs.size ≠ x := Nat.ne_of_gt (Heap.lt_size hx)
  have xC : x ≠ C := fun z => by rw [z] at hnx; rw [hC] at hnx; cases hnx
  -- super().__init__('m')
  refine ks_wpAt_execs_cons (ks_wpAt_Expr_any (ks_wpAt_MethodCall ?_ (mcall_plain hpl)) (quiet_of hk) rfl)
  refine ks_wpAt_super_base (env := callEnv (ksFn "__init__" qual params _ scope .none .none doc pm an (.ref cda) ct cc) s.heap.objs.size fI) hsu hcls (by decide) rfl (X0 _ _ ho) rfl har rfl (X0 _ _ hcda) rfl hc2 hfile htop ?_
  refine ks_loadName_global hk hsu (loadGlobal_builtin (env := callEnv (ksFn "__init__" qual params _ scope .none .none doc pm an (.ref cda) ct cc) s.heap.objs.size fI) (hg.keeps hk₀) (mg_none_of X hg T.gs) (hb.keeps hk₀) hbs ⟨rfl, ?_⟩)
  refine wpAny_loadName_free hk hcls rfl ⟨_, X0 _ _ hcell, rfl⟩ ?_
  refine wpAny_loadName_local hk (by rw [hself]; exact hloc _ List.mem_cons_self) hns (by rw [hself]; exact nself) ?_
  refine ks_wpAny_isType_cls (X0 _ _ hC) rfl ⟨rfl, ?_⟩
  refine ks_wpAny_call_super (X0 _ _ hC) rfl hx0 rfl (fun c e => by cases e) (looks_mroIn X0 (show mroIn K C (.ref C) = some true from ?_)) (fun h1 e1 k1' => ?_)
  · unfold mroIn
    rw [hcl, Option.bind_some]
    simp
  have X1 : K.In h1 := X0.keeps k1'
  have hx1 := k1' _ _ hx0
  unfold ks_superIn at *
  have hsu' := T.su
  unfold ks_superIn at hsu'
  rw [hcl] at hsu'
  have hI : Looks (model prog w) h1 (isInstance (.ref x) (.type "ValueError")) true := fun A Q E s' k q => wpAny_bind (wpAny_typeOf_ref (k _ _ hx1) (looks_subIn X1 T.vE A Q E s' k q))
  refine kxs_getMethod kxs_ValueError e1 (looks_opaque X1 T.op) (l₀ := .ref C :: bm) (fun A Q E s k q => wpAny_bind ((looks_clsIn X1 hcl) A _ E s k (wpAny_pure q))) rfl X1 hsu' hI xC (by decide) ?_
  have hu : (h1.push (kxs_mw "ValueError.__init__" x)).get? h1.objs.size = some (kxs_mw "ValueError.__init__" x) := Heap.get?_push_at rfl rfl
  have k2' : ∀ b o, h1.get? b = some o → (h1.push (kxs_mw "ValueError.__init__" x)).get? b = some o := fun b o e => Heap.get?_push_of_some _ e
  refine callWith1 (i := "ValueError.__init__") (x := x) ?_
  refine spl1 (Calls.Constant_str ⟨hu, ?_⟩)
  refine call_init T (X1.keeps k2') hu (k2' _ _ hx1) (by rw [sizeLine_eq]; simp) fun h2 t1 k3' hx2 => ?_
  have KX2 : K.In h2 := fun a o e => k3' a o (fun z => by rw [z, hnx] at e; cases e) (k2' _ _ (X1 a o e))
  refine wpAt_of_wpAny ?_
  -- the stores
  cases hS with
  | nil => exact absurd rfl hfs
  | @cons f gs ss' q1 q2 q3 q4 hS' =>
    have hLn : ∀ {b o}, s.heap.get? b = some o → b ≠ x → h2.get? b = some o := fun {b o} e hb => k3' b o hb (k2' _ _ (k1' _ _ (hk₀ _ _ e)))
    have hns2 : h2.Ns s.heap.objs.size (fun y => ((("self" : Str) :: (f :: gs)).zip (.ref x :: vs)).reverse.lookup y) := by
      obtain ⟨o, es, ep, hoo, hr⟩ := hns
      exact ⟨o, es, ep, k3' _ _ hLs (k2' _ _ (k1' _ _ hoo)), hr⟩
    obtain ⟨v, vs', rfl⟩ : ∃ v vs', vs = v :: vs' := by
      cases vs with
      | nil => simp at hlen
      | cons v vs' => exact ⟨v, vs', rfl⟩
    refine wpAny_execs_cons (plainObj_wpAny_Assign_Attribute ?_)
    refine ldE (env := callEnv (ksFn "__init__" qual params _ scope .none .none doc pm an (.ref cda) ct cc) s.heap.objs.size fI) hns2 (nfld 0 f v rfl rfl) (ldE (env := callEnv (ksFn "__init__" qual params _ scope .none .none doc pm an (.ref cda) ct cc) s.heap.objs.size fI) hns2 nself ?_ hk (hloc _ List.mem_cons_self) (T.nb _ List.mem_cons_self)) hk (hloc _ (by simp)) (T.nb _ (by simp))
    refine set_plain KX2 (ox := excO C t1) (od := none) ⟨hx2, rfl, rfl, trivial⟩ T.sa ?_
    refine exc_osa KX2 hx2 hcl (show refsVE (.ref C :: bm) = true from hbm) rfl (T.noN f (by simp)) (fun h3 tk3 dx k4' dn dne hx3 hn3 => ?_)
    have sz : ∀ {b o}, h2.get? b = some o → b ≠ dx := fun {b o} e => Nat.ne_of_lt (Nat.lt_of_lt_of_le (Heap.lt_size e) dn)
    have hKd : K.lookup dx = none := by
      cases e : K.lookup dx with
      | none => rfl
      | some o => exact absurd rfl (sz (KX2 _ _ e))
    have KX3 : K.In h3 := fun a o e => k4' a o (fun z => by rw [z, hnx] at e; cases e) (KX2 a o e)
    have hL2 : ∃ o, h2.get? s.heap.objs.size = some o := by
      obtain ⟨o, es, ep, hoo, hr⟩ := hns2
      exact ⟨o, hoo⟩
    obtain ⟨oL, hoL⟩ := hL2
    have hns3 : h3.Ns s.heap.objs.size (fun y => ((("self" : Str) :: (f :: gs)).zip (.ref x :: (v :: vs'))).reverse.lookup y) := by
      obtain ⟨o, es, ep, hoo, hr⟩ := hns2
      exact ⟨o, es, ep, k4' _ _ hLs hoo, hr⟩
    have nd2 := (List.nodup_cons.mp (List.nodup_cons.mp T.nd).2)
    refine stores_old T (env := callEnv (ksFn "__init__" qual params _ scope .none .none doc pm an (.ref cda) ct cc) s.heap.objs.size fI) hk nself (hloc _ List.mem_cons_self) gs ss' _ _ [f] hS' (fun f' hf' => ⟨List.mem_cons_of_mem _ hf', hloc _ (by simp [hf']), ?_⟩) KX3 hns3 hLs (sz hoL) hx3 hn3 (fun y hy => ?_) ?_ hKd dne nd2.2 ?_
    · obtain ⟨i, hi⟩ := List.getElem?_of_mem hf'
      have hi2 : i < vs'.length := by
        have := (List.getElem?_eq_some_iff.mp hi).1
        simp at hlen
        omega
      exact ⟨vs'[i], nfld (i + 1) f' _ (by simpa using hi) (by simp [hi2])⟩
    · by_cases hyf : y = f
      · simp [hyf]
      · simp [hyf] at hy
    · have := T.few
      simp at this ⊢
      omega
    · intro h4 tk4 mB k5' hnB hB hB'
      refine hq h4 tk4 ⟨fun b o hb e => k5' b o (fun z => ?_) (k4' b o hb (hLn e hb)), t1, dx, k5' _ _ dne.symm hx3, ?_, dne, mB, hnB, fun i f' u h1 h2' => ?_, fun f' hf' => ?_⟩
      · exact sz (hLn e hb) z
      · have l1 : s.heap.objs.size < h2.objs.size := Heap.lt_size hoL
        exact Nat.le_of_lt (Nat.lt_of_lt_of_le l1 dn)
      · cases i with
        | zero =>
          simp at h1 h2'
          subst h1; subst h2'
          rw [hB' _ nd2.1, if_pos rfl]
        | succ i =>
          have hm : f' ∈ gs := List.mem_of_getElem? (by simpa using h1)
          rw [hB f' hm]
          exact nfld (i + 1) f' u h1 h2'
      · rw [hB' f' (fun z => hf' (List.mem_cons_of_mem _ z)), if_neg (fun z => hf' (by rw [z]; exact List.mem_cons_self))]
/-- a made exception -/
structure OwnMade (h h' : Heap) (e C d : Addr) (fs : List Str) (vs : List Value) : Prop where
  keep : ∀ b o, h.get? b = some o → h'.get? b = some o
  new : h.objs.size ≤ e
  obj : ∃ t1 : Addr, h'.get? e = some ({ cls := .ref C, dict := some d, data := .fields #[.ref t1, .none, .none, .none, .bool false, .none] } : Obj)
  dbig : h.objs.size ≤ d
  dne : d ≠ e
  ns : ∃ mA, h'.Ns1 d mA ∧ (∀ (i : Nat) (f : Str) (v : Value), fs[i]? = some f → vs[i]? = some v → mA f = some v) ∧ ∀ f, f ∉ fs → mA f = none
theorem exc_made (T : ExcTxt prog K C fI fs) {vs : List Value} {s : Shared} {mg mb : Str → Option Value} (hfs : fs ≠ []) (hlen : vs.length = fs.length) (X : K.In s.heap) (hlim : s.heap.NoLimit) (hg : s.heap.Ns mainGlobals mg) (hb : s.heap.Ns builtinsNs mb) (hbs : mb "super" = some (.type "super")) (hroom : A.depth + 1 < recursionLimit)
    (hq : ∀ h' tk e d, OwnMade s.heap h' e C d fs vs → R (.ok (.ret (.ref e))) { s with heap := h', toks := tk }) :
    codeAny (model prog w) A (.call (.ref C) ⟨vs, []⟩) R s := by
  obtain ⟨nm, q, N, bs, bm, sn, sub, ab, col, dd, k0, k1, k2, k3, k5, hC, hbm⟩ := T.cls
  obtain ⟨hp, g, dr, tk, os⟩ := s
  have k : ∀ b o, hp.get? b = some o → ((hp.push (kdv_tup vs)).push (excO C hp.objs.size)).get? b = some o := fun b o e => Heap.get?_push_of_some _ (Heap.get?_push_of_some _ e)
  have hget : ((hp.push (kdv_tup vs)).push (excO C hp.objs.size)).get? (hp.objs.size + 1) = some (excO C hp.objs.size) := by heap_get
  have hnx : K.lookup (hp.objs.size + 1) = none := by
    cases e : K.lookup (hp.objs.size + 1) with
    | none => rfl
    | some o =>
      have z : hp.get? (hp.objs.size + 1) = some o := X _ _ e
      exact absurd (Nat.lt_of_succ_lt (Heap.lt_size z)) (Nat.lt_irrefl _)
  have hsz : vs.length ≤ sizeLine := by
    have := T.few
    rw [hlen, sizeLine_eq]
    omega
  refine call_own F.excBase_ValueError (fun X => refsVE_contains X bm hbm) (X _ _ hC) (looks_findIn X T.iC) (fun self => bind_fn X self T.tI) hsz ?_
  refine exc_init (s := ⟨(hp.push (kdv_tup vs)).push (excO C hp.objs.size), g, dr, tk, os⟩) T hfs hlen (X.keeps k) (hlim.keeps k) (hg.keeps k) (hb.keeps k) hbs hget hnx ?_ fun h' tk' IE => ?_
  · show A.depth + 1 < recursionLimit
    exact hroom
  · obtain ⟨k', t1, dx, hx, dn, dne, mA, hn, hv⟩ := IE
    have old : ∀ b o, hp.get? b = some o → h'.get? b = some o := fun b o e => k' b o (Nat.ne_of_lt (Nat.lt_succ_of_lt (Heap.lt_size e))) (k b o e)
    have z : hp.objs.size + 1 + 1 ≤ dx := by
      first
        | (simpa only [Heap.size_push] using dn)
        | exact dn
        | (have q := dn; rw [Heap.size_push, Heap.size_push] at q; exact q)
    exact ⟨rfl, hq h' tk' (hp.objs.size + 1) dx ⟨old, Nat.le_succ _, ⟨t1, hx⟩, Nat.le_trans (Nat.le_trans (Nat.le_succ _) (Nat.le_succ _)) z, dne, mA, hn, hv⟩⟩
end
end LkX

namespace Lk
open PySem PySem.Spec PyProof.Rows L2
abbrev St := L2.St

/-! ### raise C(e, ..) -/
/-- C(e, ..): the new exception's own dict at d -/
def tMkX (C : Addr) (fs : List Str) (ta : TA) : St → Hp → XK → Prop := fun σ H Q => ta σ H fun vs H1 => vs.length = fs.length ∧ ∀ d, H1 d = none → Q (.ref C) (some d) (upd H1 d (.xd (fs.zip vs)))
theorem zip_rel : ∀ {fs : List Str} {vs : List V} {us : List Value} {mA : Str → Option Value}, Vals vs us → vs.length = fs.length → (∀ (i : Nat) (f : Str) (v : Value), fs[i]? = some f → us[i]? = some v → mA f = some v) → (∀ f, f ∉ fs → mA f = none) → fs.Nodup → ∀ f, RelO ((fs.zip vs).lookup f) (mA f) := by
  intro fs
  induction fs with
  | nil =>
    intro vs us mA r hl h hn hd f
    rw [hn f List.not_mem_nil]
    exact True.intro
  | cons g fs ih =>
    intro vs us mA r hl h hn hd f
    cases r with
    | nil => simp at hl
    | @cons x u vs us rx rr =>
      rw [List.zip_cons_cons, lookup_put]
      by_cases hfg : f = g
      · rw [if_pos hfg, hfg, h 0 g u rfl rfl]
        exact rx
      · rw [if_neg hfg]
        have q := ih (mA := fun y => if y = g then none else mA y) rr (by simpa using hl) (fun i f' v' h1 h2 => by
            rw [if_neg (fun z => (List.nodup_cons.mp hd).1 (by rw [← z]; exact List.mem_of_getElem? h1))]
            exact h (i + 1) f' v' (by simpa using h1) (by simpa using h2)) (fun f' hf' => by
            by_cases z : f' = g
            · rw [if_pos z]
            · rw [if_neg z]
              exact hn f' (fun y => by rcases List.mem_cons.mp y with y | y; exact z y; exact hf' y)) (List.nodup_cons.mp hd).2 f
        rw [if_neg hfg] at q
        exact q
section
variable {X : Cx} {C fI : Addr} {fs : List Str} {e : Expr} {es : List Expr} {ta : TA} {x : Str} {p pos : Pos} {k : Nat}
theorem made_at {pins : List (Addr × Obj)} {σ : St} {H1 : Hp} {s1 : Shared} {us : List Value} {vs : List V} {Q : XK} {A : Around} {E : Value → Shared → Prop} (T : LkX.ExcTxt X.prog X.K C fI fs) (I1 : Inv X pins σ H1 s1) (r1 : Vals vs us) (hlen : vs.length = fs.length) (hfs : fs ≠ []) (hroom : A.depth + 1 < recursionLimit)
    (q : ∀ d, H1 d = none → Q (.ref C) (some d) (upd H1 d (.xd (fs.zip vs)))) : wpAny (model X.prog X.w) A (call (.ref C) us) (L2N.MkP X pins σ Q) E s1 := by
  obtain ⟨mb, hb1, hb2⟩ := I1.mod.blt
  have hul : us.length = fs.length := by rw [← r1.length]; exact hlen
  refine wpAny_call (LkX.exc_made T hfs hul I1.kIn I1.nolimit (I1.mod.glob.keeps I1.bk) (hb1.keeps I1.bk) ((hb2 "super" (by decide)).trans (by decide +kernel)) hroom fun h' tk' e d M => ?_)
  obtain ⟨hp, g, dr, tk, os⟩ := s1
  show L2N.MkP X pins σ Q (.ref e) ⟨h', g, dr, tk', os⟩
  obtain ⟨t1, hoe⟩ := M.obj
  obtain ⟨mA, hns, hv, hno⟩ := M.ns
  obtain ⟨G', g1, g2⟩ := restrict h' fun b => decide (b ≠ e)
  have gk : ∀ b, b ≠ e → G'.get? b = h'.get? b := fun b hb => g1 b (decide_eq_true hb)
  have ge : G'.get? e = none := g2 e (by simp)
  have old : ∀ b o, hp.get? b = some o → G'.get? b = some o := fun b o q => (gk b (Nat.ne_of_lt (Nat.lt_of_lt_of_le (Heap.lt_size q) M.new))).trans (M.keep b o q)
  have ob : ObjOk X.prog X.w (upd H1 d (.xd (fs.zip vs))) G' d (.xd (fs.zip vs)) :=
    ⟨_, hns.at (fun o q => (gk d M.dne).trans q), zip_rel r1 hlen hv hno (List.nodup_cons.mp T.nd).2⟩
  have J : Inv X pins σ (upd H1 d (.xd (fs.zip vs))) ⟨G', g, dr, tk', os⟩ := I1.laid (t' := tk') old M.dbig ob
  refine ⟨e, _, _, ⟨G', g, dr, tk', os⟩, _, .ref C, some d, rfl, J, fun b o q => ?_, ge, hoe, ⟨rfl, rfl, fun vs hvs => ?_⟩, rfl, rfl, ?_, rfl, I1.bare, raises_own T.exC T.tyC, q d (I1.hok.fresh M.dbig)⟩
  · by_cases hb : b = e
    · have q' : G'.get? b = some o := q
      rw [hb, ge] at q'; cases q'
    · exact (gk b hb).symm.trans q
  · cases hvs
    rfl
  · rw [upd_ne (Ne.symm M.dne)]
    exact I1.hok.fresh M.new
theorem pmk_own (T : LkX.ExcTxt X.prog X.K C fI fs) (hfs : fs ≠ []) (hr : Room k X.A) (hm : X.mg x = some (.ref C)) (ha : PA X (e :: es) ta) (hg : Gl X x) (hdb : (x == ("__debug__" : Str)) = false := by decide)
    (he : starEach (e :: es) X.env = (false, eval e X.env) :: starEach es X.env := by rfl) (hpl : (backTo pos (starEach es X.env)).any (·.1) = false := by rfl) :
    L2N.PMk X (.Call (.Name x p) (e :: es) [] pos) (tMkX C fs ta) := by
  intro pins s σ H Q I h
  refine wpAny_Call_Name_kw (ld_glob I hg hm ?_ hdb)
  refine PySem.W.callWith_K (h₀ := X.base) I.ok.mod.kin T.kC (thn (ha.run pos pins s σ H _ I h) fun us s1 ⟨vs, H1, I1, r1, hl, q1⟩ => ⟨I1.kIn, ?_⟩) he hpl
  exact made_at T I1 r1 hl hfs (by have := hr.dp; omega) q1
end
end Lk
namespace Lk
open PySem PySem.Spec PyProof.Rows L2

/-! ### defs as they are called -/
/-- the def at f keeps sp, by some code -/
def FnA (P : Program) (w : World) (K : PySem.W.Frag) (mg : Str → Option Value) (base : Heap) (k : Nat) (f : Addr) (ps : List Str) (sp : Sp) : Prop :=
  ∃ fd, FnOk P w K mg base (L2N.CX P w) k f fd ps sp ∧ Binds K fd ps []
def FnHA (P : Program) (w : World) (K : PySem.W.Frag) (mg : Str → Option Value) (base : Heap) (k : Nat) (f : Addr) (ps : List Str) (sp : Sp) : Prop :=
  ∃ fd, L2H.FnH P w K mg base (L2N.CX P w) k f fd ps sp ∧ Binds K fd ps []
/-- the module's name x holds the def at f -/
structure Nm (K : PySem.W.Frag) (mg : Str → Option Value) (x : Str) (f : Addr) : Prop where
  m : mg x = some (.ref f)
  k : PySem.W.keepIn K (.ref f) = true
theorem takes0 {X : Cx} : L2N.Takes X (fun _ _ _ _ => False) := fun _ _ x => by
  obtain ⟨_, _, _, _, _, _, _, _, _, _, _, _, _, _, _, _, z⟩ := x
  exact z.elim
section
variable {X : Cx} {k : Nat} {f : Addr} {ps : List Str} {sp : Sp} {W : WX} {x : Str} {p pos : Pos} {e : Expr} {es : List Expr} {t : TA}
theorem pe_callA (G : FnA X.prog X.w X.K X.mg X.base k f ps sp) (hr : Room k X.A) (hm : Nm X.K X.mg x f) (tk : L2N.Takes X W)
    (ha : PA X (e :: es) t) (hg : Gl X x := by rfl) (hdb : (x == ("__debug__" : Str)) = false := by decide) (he : starEach (e :: es) X.env = (false, eval e X.env) :: starEach es X.env := by rfl) (hpl : (backTo pos (starEach es X.env)).any (·.1) = false := by rfl) :
    PE X (.Call (.Name x p) (e :: es) [] pos) (tCallS sp (WE W) t) := by
  obtain ⟨fd, F, b⟩ := G
  exact pe_callS F hr hg hm.m hm.k b (fun σ => L2N.passAt tk σ) ha hdb he hpl
theorem pe_callHA (G : FnHA X.prog X.w X.K X.mg X.base k f ps sp) (hr : L2H.RoomH k X.A) (hc : L2H.HotC X) (hm : Nm X.K X.mg x f)
    (ha : PA X (e :: es) t) (hg : Gl X x := by rfl) (hdb : (x == ("__debug__" : Str)) = false := by decide) (he : starEach (e :: es) X.env = (false, eval e X.env) :: starEach es X.env := by rfl) (hpl : (backTo pos (starEach es X.env)).any (·.1) = false := by rfl) :
    PE X (.Call (.Name x p) (e :: es) [] pos) (tCallS sp (fun _ => E0) t) := by
  obtain ⟨fd, F, b⟩ := G
  exact L2H.pe_callH F hr hc hg hm.m hm.k b (fun σ => L2N.passAt takes0 σ) ha hdb he hpl
end
section
variable {P : Program} {w : World} {K : PySem.W.Frag} {mg : Str → Option Value} {base : Heap}
/-- a def's body, raising or not -/
theorem FnA.of {x qual : Str} {st : Stmt} {f : Addr} {fd : FuncData} {N ps : List Str} {k : Nat} {sp : Sp} (F : Fun K x qual st f fd) (S : FnScope N ps (defScope st)) (b : Binds K fd ps []) (len : ∀ vs H Q E, sp vs H Q E → vs.length = ps.length)
    (hbody : ∀ (cdv : Value) (A : Around) (outer : List Env) (s : Shared) (H : Hp) (vs : List V) (Q : VK) (E : XK), Room k (A.deeper (envOfC qual (defScope st) s.heap.objs.size f cdv)) → L2N.Takes (cxOf (L2N.CX P w) P w K mg base N qual (defScope st) f cdv A outer s H E) (fun cls d _ H' => E cls d H') →
      PassesOwn (model P w) (cxOf (L2N.CX P w) P w K mg base N qual (defScope st) f cdv A outer s H E).A (cxOf (L2N.CX P w) P w K mg base N qual (defScope st) f cdv A outer s H E).env (cxOf (L2N.CX P w) P w K mg base N qual (defScope st) f cdv A outer s H E).xe → sp vs H Q E →
      ∃ t, PSs (cxOf (L2N.CX P w) P w K mg base N qual (defScope st) f cdv A outer s H E) (defBody st) t ∧ t { nx := fun _ H' => Q .non H', rt := Q } (start N vs) H) : FnA P w K mg base (k + 1) f ps sp := by
  obtain ⟨oc, od, kV, doc, pm, an, cdv, ct, osl, rfl, lk, hcd⟩ := F.ex
  exact ⟨_, fn_of lk hcd S len fun A outer s H vs Q E hr hsp => hbody cdv A outer s H vs Q E hr (L2N.takes_of rfl rfl rfl rfl) (passes_of rfl) hsp, b⟩
theorem FnHA.of {x qual : Str} {st : Stmt} {f : Addr} {fd : FuncData} {N ps : List Str} {k : Nat} {sp : Sp} (F : Fun K x qual st f fd) (S : FnScope N ps (defScope st)) (b : Binds K fd ps []) (len : ∀ vs H Q E, sp vs H Q E → vs.length = ps.length)
    (hbody : ∀ (cdv : Value) (A : Around) (outer : List Env) (s : Shared) (H : Hp) (vs : List V) (Q : VK) (E : XK) (p : Addr × Obj), L2H.Hot1 A p → L2H.RoomH k (A.deeper (envOfC qual (defScope st) s.heap.objs.size f cdv)) → L2H.HotC (L2H.cxH (L2N.CX P w) P w K mg base N qual (defScope st) f cdv A outer s H E p) →
      PassesOwn (model P w) (L2H.cxH (L2N.CX P w) P w K mg base N qual (defScope st) f cdv A outer s H E p).A (L2H.cxH (L2N.CX P w) P w K mg base N qual (defScope st) f cdv A outer s H E p).env (L2H.cxH (L2N.CX P w) P w K mg base N qual (defScope st) f cdv A outer s H E p).xe → sp vs H Q E →
      ∃ t, PSs (L2H.cxH (L2N.CX P w) P w K mg base N qual (defScope st) f cdv A outer s H E p) (defBody st) t ∧ t { nx := fun _ H' => Q .non H', rt := Q } (start N vs) H) : FnHA P w K mg base (k + 1) f ps sp := by
  obtain ⟨oc, od, kV, doc, pm, an, cdv, ct, osl, rfl, lk, hcd⟩ := F.ex
  exact ⟨_, L2H.fn_ofH lk hcd S len fun A outer s H vs Q E p hot hr hsp => hbody cdv A outer s H vs Q E p hot hr ⟨p, ⟨hot.1, hot.2⟩, List.mem_cons_self⟩ (passes_of rfl) hsp, b⟩
end

/-! ### heaps -/
/-- all that was tracked stands, but for ms -/
def Kp (ms : List Addr) (H H' : Hp) : Prop := ∀ a o, H a = some o → a ∉ ms → H' a = some o
theorem Kp.refl {ms : List Addr} {H : Hp} : Kp ms H H := fun _ _ h _ => h
theorem Kp.at {ms : List Addr} {H H' : Hp} {a : Addr} {o : HO} (k : Kp ms H H') (h : H a = some o) (n : a ∉ ms) : H' a = some o := k a o h n
theorem Kp.at0 {H H' : Hp} {a : Addr} {o : HO} (k : Kp [] H H') (h : H a = some o) : H' a = some o := k a o h List.not_mem_nil
theorem Kp.trans {ms : List Addr} {H H1 H2 : Hp} (a : Kp ms H H1) (b : Kp ms H1 H2) : Kp ms H H2 := fun c o h n => b c o (a c o h n) n
theorem Kp.trans0 {ms : List Addr} {H H1 H2 : Hp} (a : Kp ms H H1) (b : Kp [] H1 H2) : Kp ms H H2 := fun c o h n => b c o (a c o h n) List.not_mem_nil
theorem Kp.mono {ms ns : List Addr} {H H1 : Hp} (a : Kp ms H H1) (h : ∀ x ∈ ms, x ∈ ns) : Kp ns H H1 := fun c o e n => a c o e (fun z => n (h c z))
theorem Kp.new {ms : List Addr} {H H1 : Hp} {p : Addr} {o : HO} (k : Kp ms H H1) (h : H1 p = none) : Kp ms H (upd H1 p o) := fun a u e n => by
  rw [upd_ne (ne_of_none (k a u e n) h)]
  exact k a u e n
theorem Kp.mut {ms : List Addr} {H H1 : Hp} {p : Addr} {o : HO} (k : Kp ms H H1) (h : p ∈ ms) : Kp ms H (upd H1 p o) := fun a u e n => by
  rw [upd_ne (fun z => n (by rw [z]; exact h))]
  exact k a u e n
/-- an object that was not there at the beginning is changed -/
theorem Kp.own {ms : List Addr} {H H1 : Hp} {p : Addr} {o : HO} (k : Kp ms H H1) (h : H p = none) : Kp ms H (upd H1 p o) := fun a u e n => by
  rw [upd_ne (ne_of_none e h)]
  exact k a u e n
theorem Kp.free {H H' : Hp} {a : Addr} (k : Kp [] H H') (h : H' a = none) : H a = none := by
  cases q : H a with
  | none => rfl
  | some o => rw [k a o q List.not_mem_nil] at h; cases h
theorem Kp.freeM {ms : List Addr} {H H' : Hp} {a : Addr} (k : Kp ms H H') (h : H' a = none) (hm : ∀ b ∈ ms, ∃ o, H' b = some o) : H a = none := by
  cases q : H a with
  | none => rfl
  | some o =>
    by_cases z : a ∈ ms
    · obtain ⟨o', e⟩ := hm a z
      rw [h] at e; cases e
    · rw [k a o q z] at h; cases h
theorem upd_get {H : Hp} {p a : Addr} {o u : HO} (n : a ≠ p) (h : H a = some u) : upd H p o a = some u := by rw [upd_ne n]; exact h
theorem upd_nil {H : Hp} {p a : Addr} {o : HO} (h : upd H p o a = none) : H a = none := by
  unfold upd at h
  split at h
  · cases h
  · exact h
theorem upd_nel {H : Hp} {p a : Addr} {o : HO} (h : upd H p o a = none) : a ≠ p := fun z => by
  rw [z, upd_same] at h; cases h

/-! ### lists under a map -/
theorem map_getD {α : Type} [Inhabited α] {f : α → V} {xs : List α} {i : Nat} (h : i < xs.length) : (xs.map f)[i]? = some (f (xs.getD i default)) := by
  rw [List.getElem?_map, List.getElem?_eq_getElem h]
  simp [List.getD, List.getElem?_eq_getElem h]
theorem getD_some {α : Type} [Inhabited α] {xs : List α} {i : Nat} (h : i < xs.length) : xs[i]? = some (xs.getD i default) := by
  rw [List.getElem?_eq_getElem h]
  simp [List.getD, List.getElem?_eq_getElem h]
theorem atI_pos {α : Type} {xs : List α} {i : Int} {v : α} (h0 : 0 ≤ i) (h : xs[i.toNat]? = some v) : atI xs i = some v := by
  have e : i = ((i.toNat : Nat) : Int) := by omega
  rw [e]
  exact atI_nat (by simpa using h)
theorem ixN_pos {n : Nat} {i : Int} (h0 : 0 ≤ i) (h : i.toNat < n) : ixN n i = some i.toNat := by
  unfold ixN
  rw [if_pos h0, if_pos (by omega)]
theorem map_set {α : Type} {f : α → V} {xs : List α} {i : Nat} {x : α} : (xs.map f).set i (f x) = (xs.set i x).map f := by
  rw [List.map_set]
theorem map_app {α : Type} {f : α → V} {xs : List α} {x : α} : xs.map f ++ [f x] = (xs ++ [x]).map f := by
  rw [List.map_append]; rfl

/-! ### readings by values -/
/-- a + b -/
def aAdd : R2 := fun x y H Q => rI0 (fun i j => .int (i + j)) x y H Q ∨ (∃ i j, x = .str i ∧ y = .str j ∧ i.length + j.length ≤ sizeLine ∧ Q (.str (i ++ j)) H) ∨ rCat x y H Q
/-- a * b -/
def aMul : R2 := fun x y H Q => rI CMul (fun i j => .int (i * j)) x y H Q ∨ rRep x y H Q
/-- x == y of lists of flat things -/
def aEq (K : PySem.W.Frag) : R2 := fun x y H Q => rEq x y H Q ∨ rEqD K x y H Q
def aNe (K : PySem.W.Frag) : R2 := fun x y H Q => rNe x y H Q ∨ rNeD K x y H Q
section
variable {X : Cx}
theorem o_add : OpR X (binaryOp .Add) aAdd := op_add.or (op_add_str.or op_cat)
theorem o_mul : OpR X (binaryOp .Mult) aMul := op_mul.or op_rep
theorem o_eq (hu : X.A.units + 64 < cLine) : OpR X (compareOp .Eq) (aEq X.K) := op_eq.or (op_eqD hu)
theorem o_ne (hu : X.A.units + 64 < cLine) : OpR X (compareOp .NotEq) (aNe X.K) := op_ne.or (op_neD hu)
end
section
variable {i j : Int} {a b : Str} {p q : Addr} {H : Hp} {Q : VK} {xs ys : List V} {K : PySem.W.Frag}
theorem w_addI (k : Q (.int (i + j)) H) : aAdd (.int i) (.int j) H Q := .inl ⟨i, j, rfl, rfl, k⟩
theorem w_addS (h : a.length + b.length ≤ sizeLine) (k : Q (.str (a ++ b)) H) : aAdd (.str a) (.str b) H Q := .inr (.inl ⟨a, b, rfl, rfl, h, k⟩)
theorem w_addLM {α : Type} {f : α → V} {us vs : List α} (hp : H p = some (.lst (us.map f))) (hq : H q = some (.lst (vs.map f))) (hl : us.length + vs.length ≤ sizeLine) (k : ∀ r, H r = none → Q (.ref r) (upd H r (.lst ((us ++ vs).map f)))) : aAdd (.ref p) (.ref q) H Q :=
  .inr (.inr ⟨p, q, _, _, rfl, rfl, hp, hq, by simpa using hl, fun r hr => by rw [← List.map_append]; exact k r hr⟩)
theorem w_addL (hp : H p = some (.lst xs)) (hq : H q = some (.lst ys)) (hl : xs.length + ys.length ≤ sizeLine) (k : ∀ r, H r = none → Q (.ref r) (upd H r (.lst (xs ++ ys)))) : aAdd (.ref p) (.ref q) H Q :=
  .inr (.inr ⟨p, q, _, _, rfl, rfl, hp, hq, hl, k⟩)
theorem w_mulI (h : CMul i j) (k : Q (.int (i * j)) H) : aMul (.int i) (.int j) H Q := .inl ⟨i, j, rfl, rfl, h, k⟩
theorem rep_map {α : Type} {f : α → V} {x : α} {n : Nat} : (List.replicate n [f x]).flatten = (List.replicate n x).map f := by
  induction n with
  | zero => rfl
  | succ n ih => rw [List.replicate_succ, List.flatten_cons, ih, List.replicate_succ]; rfl
theorem w_repI (hp : H p = some (.lst [.int i])) (h1 : -(2 ^ 63) ≤ j) (h2 : j < 2 ^ 63) (h3 : j.toNat ≤ sizeLine) (k : ∀ r, H r = none → Q (.ref r) (upd H r (.lst ((List.replicate j.toNat i).map V.int)))) : aMul (.ref p) (.int j) H Q :=
  .inr ⟨p, j, _, rfl, rfl, hp, h1, h2, by simpa using h3, fun r hr => by rw [rep_map (f := V.int)]; exact k r hr⟩
theorem w_repB {c : Bool} (hp : H p = some (.lst [.bl c])) (h1 : -(2 ^ 63) ≤ j) (h2 : j < 2 ^ 63) (h3 : j.toNat ≤ sizeLine) (k : ∀ r, H r = none → Q (.ref r) (upd H r (.lst ((List.replicate j.toNat c).map V.bl)))) : aMul (.ref p) (.int j) H Q :=
  .inr ⟨p, j, _, rfl, rfl, hp, h1, h2, by simpa using h3, fun r hr => by rw [rep_map (f := V.bl)]; exact k r hr⟩
theorem w_I0 {g : Int → Int → V} (k : Q (g i j) H) : rI0 g (.int i) (.int j) H Q := ⟨i, j, rfl, rfl, k⟩
theorem w_I {C : Int → Int → Prop} {g : Int → Int → V} (c : C i j) (k : Q (g i j) H) : rI C g (.int i) (.int j) H Q := ⟨i, j, rfl, rfl, c, k⟩
theorem w_U {g : Int → V} (k : Q (g i) H) : rU g (.int i) H Q := ⟨i, rfl, k⟩
theorem dI : decide (V.int i = V.int j) = decide (i = j) := by simp
theorem dS : decide (V.str a = V.str b) = decide (a = b) := by simp
theorem dB {c d : Bool} : decide (V.bl c = V.bl d) = decide (c = d) := by simp
theorem w_eqI (k : Q (.bl (decide (i = j))) H) : aEq K (.int i) (.int j) H Q := .inl ⟨rfl, by rw [dI]; exact k⟩
theorem w_eqS (k : Q (.bl (decide (a = b))) H) : aEq K (.str a) (.str b) H Q := .inl ⟨rfl, by rw [dS]; exact k⟩
theorem w_eqB {c d : Bool} (k : Q (.bl (decide (c = d))) H) : aEq K (.bl c) (.bl d) H Q := .inl ⟨rfl, by rw [dB]; exact k⟩
theorem w_neI (k : Q (.bl (!decide (i = j))) H) : aNe K (.int i) (.int j) H Q := .inl ⟨rfl, by rw [dI]; exact k⟩
theorem w_neS (k : Q (.bl (!decide (a = b))) H) : aNe K (.str a) (.str b) H Q := .inl ⟨rfl, by rw [dS]; exact k⟩
theorem w_neB {c d : Bool} (k : Q (.bl (!decide (c = d))) H) : aNe K (.bl c) (.bl d) H Q := .inl ⟨rfl, by rw [dB]; exact k⟩

theorem eqvAll_int : ∀ (ns ms : List Int), PyData.eqvAll (ns.map PyData.int) (ms.map PyData.int) = decide (ns = ms) := by
  intro ns
  induction ns with
  | nil => intro ms; cases ms <;> simp [PyData.eqvAll]
  | cons n ns ih =>
    intro ms
    cases ms with
    | nil => simp [PyData.eqvAll]
    | cons m ms =>
      rw [List.map_cons, List.map_cons, PyData.eqvAll, ih, PyData.eqv, Bool.eq_iff_iff]
      simp
theorem dpAllI : ∀ (ns : List Int), DpAll K H (ns.map V.int) (ns.map PyData.int)
  | [] => .nil
  | n :: ns => .cons (.int n) (dpAllI ns)
theorem shapedI (ns : List Int) : SeqAt.shaped (.list (ns.map PyData.int)) = true := by
  have h1 : ∀ ns : List Int, PyData.canLayAll0 (ns.map PyData.int) = true := by
    intro ns
    induction ns with
    | nil => rfl
    | cons n ns ih => rw [List.map_cons, PyData.canLayAll0, ih]; rfl
  have h2 : ∀ ns : List Int, PyData.depthAll (ns.map PyData.int) = 0 := by
    intro ns
    induction ns with
    | nil => rfl
    | cons n ns ih => rw [List.map_cons, PyData.depthAll, ih]; rfl
  unfold SeqAt.shaped
  rw [PyData.canLay0, h1, PyData.depth, h2]
  decide
theorem w_eqLI {ns ms : List Int} (hp : SqL K H p (ns.map V.int)) (hq : SqL K H q (ms.map V.int)) (k : Q (.bl (decide (ns = ms))) H) : aEq K (.ref p) (.ref q) H Q :=
  .inr ⟨_, _, .lst hp (dpAllI ns), .lst hq (dpAllI ms), shapedI ns, shapedI ms, by rw [PyData.eqv, eqvAll_int]; exact k⟩
theorem w_neLI {ns ms : List Int} (hp : SqL K H p (ns.map V.int)) (hq : SqL K H q (ms.map V.int)) (k : Q (.bl (!decide (ns = ms))) H) : aNe K (.ref p) (.ref q) H Q :=
  .inr ⟨_, _, .lst hp (dpAllI ns), .lst hq (dpAllI ms), shapedI ns, shapedI ms, by rw [PyData.eqv, eqvAll_int]; exact k⟩
end
/-- is None -/
def aIsN : R2 := fun x y H Q => y = .non ∧ Q (.bl (decide (x = .non))) H
def aNotN : R2 := fun x y H Q => y = .non ∧ Q (.bl (!decide (x = .non))) H
theorem o_isN {X : Cx} : OpR X (compareOp .Is) aIsN := op_isN
theorem o_notN {X : Cx} : OpR X (compareOp .IsNot) aNotN := op_notN
section
variable {i j : Int} {a b : Str} {p q : Addr} {H : Hp} {Q : VK} {xs ys : List V} {K : PySem.W.Frag} {x v : V}
theorem w_isN_n (k : Q (.bl true) H) : aIsN .non .non H Q := ⟨rfl, k⟩
theorem w_isN_i (k : Q (.bl false) H) : aIsN (.int i) .non H Q := ⟨rfl, k⟩
theorem w_isN_r (k : Q (.bl false) H) : aIsN (.ref p) .non H Q := ⟨rfl, k⟩
theorem w_isN_s (k : Q (.bl false) H) : aIsN (.str a) .non H Q := ⟨rfl, k⟩
theorem w_notN_n (k : Q (.bl false) H) : aNotN .non .non H Q := ⟨rfl, k⟩
theorem w_notN_i (k : Q (.bl true) H) : aNotN (.int i) .non H Q := ⟨rfl, k⟩
theorem w_notN_r (k : Q (.bl true) H) : aNotN (.ref p) .non H Q := ⟨rfl, k⟩
theorem w_notN_s (k : Q (.bl true) H) : aNotN (.str a) .non H Q := ⟨rfl, k⟩
/-! x[i] -/
theorem w_ixC {xs : List V} {n : Nat} (hp : H p = some (.lst xs)) (hv : xs[n]? = some v) (k : Q v H) : rIx K (.ref p) (.int (n : Int)) H Q := .inl ⟨p, _, _, v, rfl, rfl, SqL.of hp, atI_nat hv, k⟩
theorem w_ixM {α : Type} [Inhabited α] {f : α → V} {us : List α} (hp : H p = some (.lst (us.map f))) (h0 : 0 ≤ i) (hl : i.toNat < us.length) (k : Q (f (us.getD i.toNat default)) H) : rIx K (.ref p) (.int i) H Q :=
  .inl ⟨p, _, _, _, rfl, rfl, SqL.of hp, atI_pos h0 (map_getD hl), k⟩
theorem w_ixL (hp : H p = some (.lst xs)) (h0 : 0 ≤ i) (hv : xs[i.toNat]? = some v) (k : Q v H) : rIx K (.ref p) (.int i) H Q :=
  .inl ⟨p, _, _, v, rfl, rfl, SqL.of hp, atI_pos h0 hv, k⟩
theorem w_ixT (hp : H p = some (.tup xs)) (h0 : 0 ≤ i) (hv : xs[i.toNat]? = some v) (k : Q v H) : rIx K (.ref p) (.int i) H Q :=
  .inr (.inl ⟨p, _, _, v, rfl, rfl, .inl (.inl hp), atI_pos h0 hv, k⟩)
theorem w_ixS {c : Nat} (hl : a.length ≤ sizeLine) (h0 : 0 ≤ i) (hv : a.cps.toList[i.toNat]? = some c) (k : Q (.str ⟨#[c]⟩) H) : rIx K (.str a) (.int i) H Q :=
  .inr (.inr ⟨a, _, c, rfl, rfl, hl, atI_pos h0 hv, k⟩)
/-! x[i] = v -/
theorem w_setM {α : Type} {f : α → V} {us : List α} {u : α} {Q : Hp → Prop} (hp : H p = some (.lst (us.map f))) (h0 : 0 ≤ i) (hl : i.toNat < us.length) (k : Q (upd H p (.lst ((us.set i.toNat u).map f)))) : rSetL (.ref p) (.int i) (f u) H Q :=
  ⟨p, _, _, i.toNat, rfl, rfl, hp, ixN_pos h0 (by simpa using hl), by rw [map_set]; exact k⟩
theorem w_setMI {us : List Int} {u : Int} {Q : Hp → Prop} (hp : H p = some (.lst (us.map V.int))) (h0 : 0 ≤ i) (hl : i.toNat < us.length) (k : Q (upd H p (.lst ((us.set i.toNat u).map V.int)))) : rSetL (.ref p) (.int i) (.int u) H Q := w_setM hp h0 hl k
theorem w_setMB {us : List Bool} {u : Bool} {Q : Hp → Prop} (hp : H p = some (.lst (us.map V.bl))) (h0 : 0 ≤ i) (hl : i.toNat < us.length) (k : Q (upd H p (.lst ((us.set i.toNat u).map V.bl)))) : rSetL (.ref p) (.int i) (.bl u) H Q := w_setM hp h0 hl k
theorem w_setMS {us : List Str} {u : Str} {Q : Hp → Prop} (hp : H p = some (.lst (us.map V.str))) (h0 : 0 ≤ i) (hl : i.toNat < us.length) (k : Q (upd H p (.lst ((us.set i.toNat u).map V.str)))) : rSetL (.ref p) (.int i) (.str u) H Q := w_setM hp h0 hl k
theorem w_setL {u : V} {Q : Hp → Prop} (hp : H p = some (.lst xs)) (h0 : 0 ≤ i) (hl : i.toNat < xs.length) (k : Q (upd H p (.lst (xs.set i.toNat u)))) : rSetL (.ref p) (.int i) u H Q :=
  ⟨p, _, _, i.toNat, rfl, rfl, hp, ixN_pos h0 hl, k⟩
/-! methods of lists: the type is asked first -/
theorem w_tyL (hp : H p = some (.lst xs)) (k : A) : tyV K "list" (.ref p) H ∧ A := ⟨.inl ⟨rfl, _, SqL.of hp⟩, k⟩
theorem w_tyS (k : A) : tyV K "str" (.str a) H ∧ A := ⟨rfl, k⟩
theorem w_appMI {us : List Int} {u : Int} (hp : H p = some (.lst (us.map V.int))) (hl : us.length < sizeLine) (k : Q .non (upd H p (.lst ((us ++ [u]).map V.int)))) : rAppend (.ref p) [.int u] H Q := ⟨p, _, _, rfl, rfl, hp, by simpa using hl, by rw [map_app (f := V.int)]; exact k⟩
theorem w_appMS {us : List Str} {u : Str} (hp : H p = some (.lst (us.map V.str))) (hl : us.length < sizeLine) (k : Q .non (upd H p (.lst ((us ++ [u]).map V.str)))) : rAppend (.ref p) [.str u] H Q := ⟨p, _, _, rfl, rfl, hp, by simpa using hl, by rw [map_app (f := V.str)]; exact k⟩
theorem w_appMB {us : List Bool} {u : Bool} (hp : H p = some (.lst (us.map V.bl))) (hl : us.length < sizeLine) (k : Q .non (upd H p (.lst ((us ++ [u]).map V.bl)))) : rAppend (.ref p) [.bl u] H Q := ⟨p, _, _, rfl, rfl, hp, by simpa using hl, by rw [map_app (f := V.bl)]; exact k⟩
theorem w_appL {u : V} (hp : H p = some (.lst xs)) (hl : xs.length < sizeLine) (k : Q .non (upd H p (.lst (xs ++ [u])))) : rAppend (.ref p) [u] H Q := ⟨p, _, _, rfl, rfl, hp, hl, k⟩
theorem w_rev (hp : H p = some (.lst xs)) (k : Q .non (upd H p (.lst xs.reverse))) : rReverse (.ref p) [] H Q := ⟨p, _, rfl, rfl, hp, k⟩
def rInsert : V → List V → Hp → VK → Prop := fun x vs H Q => ∃ (l : Addr) (xs : List V) (i : Int) (y : V), x = .ref l ∧ vs = [.int i, y] ∧ H l = some (.lst xs) ∧ xs.length < sizeLine ∧ 0 ≤ i ∧ i < 2 ^ 63 ∧ Q .non (upd H l (.lst (xs.take i.toNat ++ [y] ++ xs.drop i.toNat)))
theorem m_insert {X : Cx} : MtR X "list.insert" rInsert := mt_insert
def insAt {α : Type} (us : List α) (n : Nat) (u : α) : List α := us.take n ++ [u] ++ us.drop n
theorem w_insMI {us : List Int} {u : Int} (hp : H p = some (.lst (us.map V.int))) (hl : us.length < sizeLine) (h0 : 0 ≤ i) (h1 : i < 2 ^ 63) (k : Q .non (upd H p (.lst ((insAt us i.toNat u).map V.int)))) : rInsert (.ref p) [.int i, .int u] H Q :=
  ⟨p, _, _, _, rfl, rfl, hp, by simpa using hl, h0, h1, by rw [← List.map_take, ← List.map_drop, map_app (f := V.int), ← List.map_append]; exact k⟩
theorem w_insMS {us : List Str} {u : Str} (hp : H p = some (.lst (us.map V.str))) (hl : us.length < sizeLine) (h0 : 0 ≤ i) (h1 : i < 2 ^ 63) (k : Q .non (upd H p (.lst ((insAt us i.toNat u).map V.str)))) : rInsert (.ref p) [.int i, .str u] H Q :=
  ⟨p, _, _, _, rfl, rfl, hp, by simpa using hl, h0, h1, by rw [← List.map_take, ← List.map_drop, map_app (f := V.str), ← List.map_append]; exact k⟩
/-! built-ins -/
def rLen (K : PySem.W.Frag) : List V → Hp → VK → Prop := fun xs H Q => ∃ x n, xs = [x] ∧ LenV K x H n ∧ Q (.int n) H
theorem b_len {X : Cx} : CallR X (.builtin "len") (rLen X.K) := call_len
theorem w_lenL (hp : H p = some (.lst xs)) (k : Q (.int xs.length) H) : rLen K [.ref p] H Q := ⟨_, _, rfl, .inl ⟨_, SqL.of hp, rfl⟩, k⟩
theorem w_lenM {α : Type} {f : α → V} {us : List α} (hp : H p = some (.lst (us.map f))) (k : Q (.int us.length) H) : rLen K [.ref p] H Q := ⟨_, _, rfl, .inl ⟨_, SqL.of hp, rfl⟩, by rw [List.length_map]; exact k⟩
theorem w_lenT (hp : H p = some (.tup xs)) (k : Q (.int xs.length) H) : rLen K [.ref p] H Q := ⟨_, _, rfl, .inr ⟨_, .inl (.inl hp), rfl⟩, k⟩
theorem w_lenS (hl : a.length ≤ sizeLine) (k : Q (.int a.length) H) : rLen K [.str a] H Q := ⟨_, _, rfl, ⟨hl, rfl⟩, k⟩
def rAbs : List V → Hp → VK → Prop := fun xs H Q => ∃ i, xs = [.int i] ∧ Q (.int (if i < 0 then -i else i)) H
theorem b_abs {X : Cx} : CallR X (.builtin "abs") rAbs := call_abs
theorem abs_nat (i : Int) : (if i < 0 then -i else i) = (i.natAbs : Int) := by split <;> omega
theorem w_abs (k : Q (.int (i.natAbs : Int)) H) : rAbs [.int i] H Q := ⟨i, rfl, by rw [abs_nat]; exact k⟩
def rMax2 : List V → Hp → VK → Prop := fun xs H Q => ∃ i j, xs = [.int i, .int j] ∧ Q (.int (if j > i then j else i)) H
def rMin2 : List V → Hp → VK → Prop := fun xs H Q => ∃ i j, xs = [.int i, .int j] ∧ Q (.int (if j < i then j else i)) H
theorem b_max2 {X : Cx} (hc : X.calm = true) : CallR X (.builtin "max") rMax2 := call_max2 hc
theorem b_min2 {X : Cx} (hc : X.calm = true) : CallR X (.builtin "min") rMin2 := call_min2 hc
theorem w_max2 (k : Q (.int (max i j)) H) : rMax2 [.int i, .int j] H Q := ⟨i, j, rfl, by rw [show (if j > i then j else i) = max i j by split <;> omega]; exact k⟩
theorem w_min2 (k : Q (.int (min i j)) H) : rMin2 [.int i, .int j] H Q := ⟨i, j, rfl, by rw [show (if j < i then j else i) = min i j by split <;> omega]; exact k⟩
def rInt1 : List V → Hp → VK → Prop := fun xs H Q => (∃ i, xs = [.int i] ∧ Q (.int i) H) ∨ ∃ k, xs = [.bl k] ∧ Q (.int (if k then 1 else 0)) H
theorem b_int {X : Cx} : CallR X (.type "int") rInt1 := call_int1
theorem w_int (k : Q (.int i) H) : rInt1 [.int i] H Q := .inl ⟨i, rfl, k⟩
def rListOf (K : PySem.W.Frag) : List V → Hp → VK → Prop := fun xs H Q => ∃ p ys, xs = [.ref p] ∧ (SqL K H p ys ∨ SqT K H p ys) ∧ ∀ l, H l = none → Q (.ref l) (upd H l (.lst ys))
theorem b_list {X : Cx} : CallR X (.type "list") (rListOf X.K) := call_list_of
theorem w_listL (hp : H p = some (.lst xs)) (k : ∀ l, H l = none → Q (.ref l) (upd H l (.lst xs))) : rListOf K [.ref p] H Q := ⟨p, _, rfl, .inl (SqL.of hp), k⟩
theorem w_listT (hp : H p = some (.tup xs)) (k : ∀ l, H l = none → Q (.ref l) (upd H l (.lst xs))) : rListOf K [.ref p] H Q := ⟨p, _, rfl, .inr (.inl (.inl hp)), k⟩
/-! isinstance -/
section
variable {n : String} {c : Bool}
theorem w_isiI (e : kitB "int" n = some c) (k : Q (.bl c) H) : rIsi K [.int i, .ty n] H Q := ⟨_, _, _, _, c, rfl, .ty n, .base (.int i), kit_ty e, k⟩
theorem w_isiB {d : Bool} (e : kitB "bool" n = some c) (k : Q (.bl c) H) : rIsi K [.bl d, .ty n] H Q := ⟨_, _, _, _, c, rfl, .ty n, .base (.bl d), kit_ty e, k⟩
theorem w_isiS (e : kitB "str" n = some c) (k : Q (.bl c) H) : rIsi K [.str a, .ty n] H Q := ⟨_, _, _, _, c, rfl, .ty n, .base (.str a), kit_ty e, k⟩
theorem w_isiN (e : kitB "NoneType" n = some c) (k : Q (.bl c) H) : rIsi K [.non, .ty n] H Q := ⟨_, _, _, _, c, rfl, .ty n, .base .non, kit_ty e, k⟩
theorem w_isiL (hp : H p = some (.lst xs)) (e : kitB "list" n = some c) (k : Q (.bl c) H) : rIsi K [.ref p, .ty n] H Q := ⟨_, _, _, _, c, rfl, .ty n, .base (.lst hp), kit_ty e, k⟩
theorem w_isiT (hp : H p = some (.tup xs)) (e : kitB "tuple" n = some c) (k : Q (.bl c) H) : rIsi K [.ref p, .ty n] H Q := ⟨_, _, _, _, c, rfl, .ty n, .base (.tup hp), kit_ty e, k⟩
end
theorem kb_ii : kitB "int" "int" = some true := by decide +kernel
theorem kb_ib : kitB "int" "bool" = some false := by decide +kernel
theorem kb_is : kitB "int" "str" = some false := by decide +kernel
theorem kb_il : kitB "int" "list" = some false := by decide +kernel
theorem kb_it : kitB "int" "tuple" = some false := by decide +kernel
theorem kb_bi : kitB "bool" "int" = some true := by decide +kernel
theorem kb_bb : kitB "bool" "bool" = some true := by decide +kernel
theorem kb_bt : kitB "bool" "tuple" = some false := by decide +kernel
theorem kb_ss : kitB "str" "str" = some true := by decide +kernel
theorem kb_si : kitB "str" "int" = some false := by decide +kernel
theorem kb_st : kitB "str" "tuple" = some false := by decide +kernel
theorem kb_sl : kitB "str" "list" = some false := by decide +kernel
theorem kb_ll : kitB "list" "list" = some true := by decide +kernel
theorem kb_lt : kitB "list" "tuple" = some false := by decide +kernel
theorem kb_li : kitB "list" "int" = some false := by decide +kernel
theorem kb_tt : kitB "tuple" "tuple" = some true := by decide +kernel
theorem kb_tl : kitB "tuple" "list" = some false := by decide +kernel
theorem kb_nt : kitB "NoneType" "tuple" = some false := by decide +kernel
theorem kb_ni : kitB "NoneType" "int" = some false := by decide +kernel
theorem kb_nl : kitB "NoneType" "list" = some false := by decide +kernel
theorem kb_ns : kitB "NoneType" "str" = some false := by decide +kernel

/-! truth, tests -/
/-- a value's truth -/
def aTru (K : PySem.W.Frag) : V → Hp → (Bool → Hp → Prop) → Prop := fun x H Q => ∃ k, TruV K x H k ∧ Q k H
def cTru (K : PySem.W.Frag) (ta : TE) : TT := fun σ H Q => ta σ H fun x H' => aTru K x H' Q
theorem pt_tru {X : Cx} {e : Expr} {ta : TE} (ha : PE X e ta) (he : ∀ whole, isTrue e X.env whole = (do let v ← whole; standAt e.pos; holding [v] (truthy v)) := by intro _; rfl) : PT X e (cTru X.K ta) := pt_truth ha he
section
variable {R : Bool → Hp → Prop} {c : Bool}
theorem w_truB (k : R c H) : aTru K (.bl c) H R := ⟨c, rfl, k⟩
theorem w_truI (k : R (i != 0) H) : aTru K (.int i) H R := ⟨_, rfl, k⟩
theorem w_truN (k : R false H) : aTru K .non H R := ⟨_, rfl, k⟩
theorem w_truS (hl : a.length ≤ sizeLine) (k : R ((a.length : Int) != 0) H) : aTru K (.str a) H R := ⟨_, ⟨hl, rfl⟩, k⟩
theorem w_truL (hp : H p = some (.lst xs)) (k : R (!xs.isEmpty) H) : aTru K (.ref p) H R := ⟨_, .inl ⟨_, SqL.of hp, rfl⟩, k⟩
theorem w_truT (hp : H p = some (.tup xs)) (k : R (!xs.isEmpty) H) : aTru K (.ref p) H R := ⟨_, .inr (.inl ⟨_, .inl (.inl hp), rfl⟩), k⟩
end
def aB (x : V) (H : Hp) (R : Bool → Hp → Prop) : Prop := ∃ k, x = .bl k ∧ R k H
def cB (t : TE) : TT := fun σ H Q => t σ H fun x H' => aB x H' Q
theorem pt_cmpA {X : Cx} {op : CmpOp} {r : R2} {e1 e2 : Expr} {ta tb : TE} {pos : Pos} (ho : OpR X (compareOp op) r) (ha : PE X e1 ta) (hb : PE X e2 tb) (hm : behindInMarks op e2 = false) : PT X (.Compare e1 [op] [e2] pos) (cB (tOp r ta tb)) := pt_cmpR ho ha hb hm
theorem pt_chainA {X : Cx} {op op' : CmpOp} {r r' : R2} {e1 e2 e3 : Expr} {ta tb tc : TE} {pos : Pos} (ho : OpR X (compareOp op) r) (ho' : OpR X (compareOp op') r') (ha : PE X e1 ta) (hb : PE X e2 tb) (hc : PE X e3 tc) (hm : lastMarks [op, op'] [e2, e3] = false := by with_unfolding_all rfl) :
    PT X (.Compare e1 [op, op'] [e2, e3] pos) (cB (tChain r r' ta tb tc)) := pt_chain ho ho' ha hb hc hm
theorem w_B {c : Bool} {R : Bool → Hp → Prop} (k : R c H) : aB (.bl c) H R := ⟨c, rfl, k⟩
end
/-! ### ifs -/
section
variable {A B : Prop} {p : Prop} [Decidable p]
theorem w_ite (h1 : p → A) (h2 : ¬p → B) : if decide p = true then A else B := by
  by_cases h : p
  · rw [if_pos (by simpa using h)]; exact h1 h
  · rw [if_neg (by simpa using h)]; exact h2 h
theorem w_iteT (h : p) (k : A) : if decide p = true then A else B := by rw [if_pos (by simpa using h)]; exact k
theorem w_iteF (h : ¬p) (k : B) : if decide p = true then A else B := by rw [if_neg (by simpa using h)]; exact k
theorem w_iteN (h1 : ¬p → A) (h2 : p → B) : if (!decide p) = true then A else B := by
  by_cases h : p
  · rw [if_neg (by simpa using h)]; exact h2 h
  · rw [if_pos (by simpa using h)]; exact h1 h
theorem w_iteNT (h : ¬p) (k : A) : if (!decide p) = true then A else B := by rw [if_pos (by simpa using h)]; exact k
theorem w_iteNF (h : p) (k : B) : if (!decide p) = true then A else B := by rw [if_neg (by simpa using h)]; exact k
theorem w_ite1 (k : A) : if true = true then A else B := by rw [if_pos rfl]; exact k
theorem w_ite0 (k : B) : if false = true then A else B := by rw [if_neg Bool.false_ne_true]; exact k
theorem w_iteb {b : Bool} (h1 : b = true → A) (h2 : b = false → B) : if b = true then A else B := by
  cases b
  · rw [if_neg Bool.false_ne_true]; exact h2 rfl
  · rw [if_pos rfl]; exact h1 rfl
theorem w_itebT {b : Bool} (h : b = true) (k : A) : if b = true then A else B := by rw [if_pos h]; exact k
theorem w_itebF {b : Bool} (h : b = false) (k : B) : if b = true then A else B := by rw [h, if_neg Bool.false_ne_true]; exact k
theorem w_itenb {b : Bool} (h1 : b = false → A) (h2 : b = true → B) : if (!b) = true then A else B := by
  cases b
  · rw [if_pos (by decide)]; exact h1 rfl
  · rw [if_neg (by decide)]; exact h2 rfl
theorem w_itenbT {b : Bool} (h : b = false) (k : A) : if (!b) = true then A else B := by rw [h, if_pos (by decide)]; exact k
theorem w_itenbF {b : Bool} (h : b = true) (k : B) : if (!b) = true then A else B := by rw [h, if_neg (by decide)]; exact k
end
/-! ### structure: what a reading says, one step -/
section
variable {σ σ' : St} {H : Hp} {Q : VK} {D : Ends} {ta tb : TE} {t u : TT} {tl tr : TA} {ts us : TS} {g : TG} {gs : TGs} {r : R2} {i : Nat} {v : V} {K : PySem.W.Frag}
theorem s_var (h : σ[i]? = some (some v)) (k : Q v H) : tVar i σ H Q := ⟨v, h, k⟩
theorem s_c (k : Q v H) : tC v σ H Q := k
theorem s_op (k : ta σ H fun x H1 => tb σ H1 fun y H2 => r x y H2 Q) : tOp r ta tb σ H Q := k
theorem s_un {r : V → Hp → VK → Prop} (k : ta σ H fun x H1 => r x H1 Q) : tUn r ta σ H Q := k
theorem s_nil {Q : List V → Hp → Prop} (k : Q [] H) : tNil σ H Q := k
theorem s_cons {Q : List V → Hp → Prop} (k : ta σ H fun x H1 => tl σ H1 fun xs H2 => Q (x :: xs) H2) : tCons ta tl σ H Q := k
theorem s_callS {sp : Sp} {E : St → XK} (k : tl σ H fun vs H1 => sp vs H1 Q (E σ)) : tCallS sp E tl σ H Q := k
theorem s_CB {r : List V → Hp → VK → Prop} (k : tl σ H fun vs H1 => r vs H1 Q) : tCB r tl σ H Q := k
theorem s_BM {T : String} {r : V → List V → Hp → VK → Prop} (k : ta σ H fun x H1 => tyV K T x H1 ∧ tl σ H1 fun xs H2 => r x xs H2 Q) : tBM K T r ta tl σ H Q := k
theorem s_BM0 {T : String} {r : V → List V → Hp → VK → Prop} (k : ta σ H fun x H1 => tyV K T x H1 ∧ r x [] H1 Q) : tBM0 K T r ta σ H Q := k
theorem s_seq (k : ts { D with nx := us D } σ H) : tSeq ts us D σ H := k
theorem s_next (k : D.nx σ H) : tNext D σ H := k
theorem s_asg (k : ta σ H fun x H1 => g x σ H1 D.nx) : tAsg ta g D σ H := k
theorem s_name {Q : St → Hp → Prop} (e : σ.set i (some v) = σ') (k : Q σ' H) : gName i v σ H Q := by
  show Q (σ.set i (some v)) H
  rw [e]; exact k
theorem s_sub {to ti : TE} {t : TSet} {Q : St → Hp → Prop} (k : to σ H fun o H1 => ti σ H1 fun i H2 => t o i v H2 fun H3 => Q σ H3) : gSub to ti t v σ H Q := k
theorem s_ret (k : ta σ H D.rt) : tRet ta D σ H := k
theorem s_retN (k : D.rt .non H) : tRetN D σ H := k
theorem s_drop (k : ta σ H fun _ H1 => D.nx σ H1) : tDrop ta D σ H := k
theorem s_ifS (k : t σ H fun b H1 => if b = true then ts D σ H1 else us D σ H1) : tIfS t ts us D σ H := k
theorem s_if (k : t σ H fun b H1 => if b = true then ta σ H1 Q else tb σ H1 Q) : tIf t ta tb σ H Q := k
theorem s_tru {Q : Bool → Hp → Prop} (k : ta σ H fun x H1 => aTru K x H1 Q) : cTru K ta σ H Q := k
theorem s_B {Q : Bool → Hp → Prop} (k : ta σ H fun x H1 => aB x H1 Q) : cB ta σ H Q := k
theorem s_and {Q : Bool → Hp → Prop} (k : t σ H fun c H1 => if c = true then u σ H1 Q else Q false H1) : tAnd t u σ H Q := k
theorem s_or {Q : Bool → Hp → Prop} (k : t σ H fun c H1 => if c = true then Q true H1 else u σ H1 Q) : tOr t u σ H Q := k
theorem s_not {Q : Bool → Hp → Prop} (k : t σ H fun c H1 => Q (!c) H1) : tNot t σ H Q := k
theorem s_andV (k : ta σ H fun x H1 => aB x H1 fun c H2 => if c = true then tb σ H2 Q else Q (.bl false) H2) : tAndV ta tb σ H Q := k
theorem s_orV (k : ta σ H fun x H1 => aB x H1 fun c H2 => if c = true then Q (.bl true) H2 else tb σ H2 Q) : tOrV ta tb σ H Q := k
theorem s_notV (k : ta σ H fun x H1 => aB x H1 fun c H2 => Q (.bl (!c)) H2) : tNotV ta σ H Q := k
theorem s_lst (k : tl σ H fun xs H1 => xs.length ≤ sizeLine ∧ ∀ p, H1 p = none → Q (.ref p) (upd H1 p (.lst xs))) : tLst tl σ H Q := k
theorem s_tup (k : tl σ H fun xs H1 => xs.length ≤ sizeLine ∧ ∀ p, H1 p = none → Q (.ref p) (upd H1 p (.tup xs))) : tTup tl σ H Q := k
theorem s_chain {r' : R2} {tc : TE} (k : ta σ H fun x H1 => tb σ H1 fun y H2 => r x y H2 fun z H3 => aB z H3 fun c H4 => if c = true then tc σ H4 fun w' H5 => r' y w' H5 Q else Q (.bl false) H4) : tChain r r' ta tb tc σ H Q := by
  unfold tChain
  have hm := k
  exact k
end
/-! ### slices -/
def rSlA (K : PySem.W.Frag) : V → Option Int → Option Int → Hp → VK → Prop := fun x lo hi H Q => rSlL K x lo hi H Q ∨ rSlS x lo hi H Q ∨ rSlT K x lo hi H Q
theorem sl_any {X : Cx} : SlR X (rSlA X.K) := sl_list.or (sl_str.or sl_tup)
theorem not_mem2 {a b : Addr} {l : List Addr} (h : a ≠ b) (h2 : a ∉ l) : a ∉ b :: l := fun z => by
  rcases List.mem_cons.mp z with z | z
  · exact h z
  · exact h2 z
theorem w_new {n : Nat} {B : Prop} (h : n ≤ sizeLine) (k : B) : n ≤ sizeLine ∧ B := ⟨h, k⟩
/-- the part of a list from lo to hi -/
def cut {α : Type} (xs : List α) (lo hi : Option Int) : List α := (xs.drop (HT.sIx xs.length 0 lo)).take (HT.sIx xs.length xs.length hi - HT.sIx xs.length 0 lo)
theorem cutV_map {α : Type} {f : α → V} {us : List α} {lo hi : Option Int} : cutV (us.map f) lo hi = (cut us lo hi).map f := by
  unfold cutV cut
  rw [List.length_map, List.map_take, List.map_drop]
section
variable {σ : St} {H : Hp} {Q : VK} {te : TE} {K : PySem.W.Frag} {p : Addr} {lo hi : Option Int} {xs : List V} {z : Str}
theorem s_sl {r : V → Option Int → Option Int → Hp → VK → Prop} {tl th : TO} (k : te σ H fun x H1 => tl σ H1 fun l H2 => th σ H2 fun u H3 => r x l u H3 Q) : tSl r te tl th σ H Q := k
theorem s_nopart {R : Option Int → Hp → Prop} (k : R none H) : tNoPart σ H R := k
def aPart (R : Option Int → Hp → Prop) : VK := fun x H1 => ∃ i, x = .int i ∧ R (some i) H1
theorem s_part {R : Option Int → Hp → Prop} (k : te σ H (aPart R)) : tPart te σ H R := k
theorem w_part {i : Int} {R : Option Int → Hp → Prop} (k : R (some i) H) : aPart R (.int i) H := ⟨i, rfl, k⟩
theorem w_slM {α : Type} {f : α → V} {us : List α} (hp : H p = some (.lst (us.map f))) (k : ∀ r, H r = none → Q (.ref r) (upd H r (.lst ((cut us lo hi).map f)))) : rSlA K (.ref p) lo hi H Q :=
  .inl ⟨p, _, rfl, SqL.of hp, fun r hr => by rw [cutV_map]; exact k r hr⟩
theorem w_slL (hp : H p = some (.lst xs)) (k : ∀ r, H r = none → Q (.ref r) (upd H r (.lst (cutV xs lo hi)))) : rSlA K (.ref p) lo hi H Q :=
  .inl ⟨p, _, rfl, SqL.of hp, k⟩
theorem w_slQ {α : Type} {f : α → V} {us : List α} (hp : SqL K H p (us.map f)) (k : ∀ r, H r = none → Q (.ref r) (upd H r (.lst ((cut us lo hi).map f)))) : rSlA K (.ref p) lo hi H Q :=
  .inl ⟨p, _, rfl, hp, fun r hr => by rw [cutV_map]; exact k r hr⟩
theorem w_slS (hl : z.length ≤ sizeLine) (k : Q (.str (cutS z lo hi)) H) : rSlA K (.str z) lo hi H Q := .inr (.inl ⟨z, rfl, hl, k⟩)
end
end Lk
namespace Lk
open PySem PySem.Spec PyProof.Rows L2

/-! ### for -/
/-- what is asked once the iterator J stands -/
def aLoop (J : It) (g : TG) (tb : TS) (D : Ends) (σ : St) (H1 : Hp) : Prop := ∃ W : Nat → Nat → St → Hp → Prop, (∃ m, W 0 m σ H1) ∧ ∀ i m σ H, W i m σ H →
  (J.stop i H ∧ D.nx σ H) ∨ (J.go i H ∧ ∃ N : St → Hp → Prop, (∀ σ' H', N σ' H' → ∃ m', m' < m ∧ W (i + 1) m' σ' H') ∧ ∀ x H', J.yld i H x H' → g x σ H' fun σ2 H2 => tb { D with nx := N, ct := N, bk := D.nx } σ2 H2)
def aRng1 (g : TG) (tb : TS) (D : Ends) (σ : St) (vs : List V) (H1 : Hp) : Prop := ∃ j : Int, vs = [.int j] ∧ -(2 ^ 62) ≤ j ∧ j < 2 ^ 62 ∧ aLoop (Itr 0 j.toNat) g tb D σ H1
def aRng2 (g : TG) (tb : TS) (D : Ends) (σ : St) (vs : List V) (H1 : Hp) : Prop := ∃ i j : Int, vs = [.int i, .int j] ∧ (-(2 ^ 62) ≤ i ∧ i < 2 ^ 62 ∧ -(2 ^ 62) ≤ j ∧ j < 2 ^ 62) ∧ aLoop (Itr i (j - i).toNat) g tb D σ H1
def aFList (K : PySem.W.Frag) (g : TG) (tb : TS) (D : Ends) (σ : St) (x : V) (H1 : Hp) : Prop := ∃ a, x = .ref a ∧ (∃ xs, SqL K H1 a xs) ∧ aLoop (Itl K a) g tb D σ H1
def aFEnum (K : PySem.W.Frag) (g : TG) (tb : TS) (D : Ends) (σ : St) (vs : List V) (H1 : Hp) : Prop := ∃ a xs, vs = [.ref a] ∧ SqL K H1 a xs ∧ aLoop (Ite K a) g tb D σ H1
section
variable {σ : St} {H : Hp} {D : Ends} {g : TG} {tb : TS} {ta : TA} {te : TE} {K : PySem.W.Frag}
theorem s_forR1 (k : ta σ H fun vs H1 => aRng1 g tb D σ vs H1) : tFor (iRng1 ta) g tb D σ H := k
theorem s_forR2 (k : ta σ H fun vs H1 => aRng2 g tb D σ vs H1) : tFor (iRng2 ta) g tb D σ H := k
theorem s_forL (k : te σ H fun x H1 => aFList K g tb D σ x H1) : tFor (iList K te) g tb D σ H := k
theorem s_forE (k : ta σ H fun vs H1 => aFEnum K g tb D σ vs H1) : tFor (iEnum K ta) g tb D σ H := k
variable {nx bk ct : St → Hp → Prop} {rt : VK} {j j' : Nat}
theorem w_rng1 {n : Int} (hn : n < 2 ^ 62 := by omega) (hn' : -(2 ^ 62) ≤ n := by omega) (Pv : Nat → St → Hp → Prop) (h0 : Pv 0 σ H)
    (hs : ∀ (i : Nat) σ' H', (i : Int) < n → Pv i σ' H' → tb ⟨Pv (i + 1), rt, nx, Pv (i + 1)⟩ (σ'.set j (some (.int (i : Int)))) H') (hd : ∀ σ' H', Pv n.toNat σ' H' → nx σ' H') : aRng1 (gName j) tb ⟨nx, rt, bk, ct⟩ σ [.int n] H :=
  ⟨n, rfl, hn', hn, for_range (lo := 0) (n := n.toNat) Pv h0 (fun i σ' H' hi p => by
    show tb ⟨Pv (i + 1), rt, nx, Pv (i + 1)⟩ (σ'.set j (some (.int ((0 : Int) + (i : Int))))) H'
    rw [Int.zero_add]
    exact hs i σ' H' (by omega) p) hd⟩
theorem w_rng2 {lo n : Int} (hl : -(2 ^ 62) ≤ lo := by omega) (hl' : lo < 2 ^ 62 := by omega) (hn : n < 2 ^ 62 := by omega) (hn' : -(2 ^ 62) ≤ n := by omega) (Pv : Nat → St → Hp → Prop) (h0 : Pv 0 σ H)
    (hs : ∀ (i : Nat) σ' H', lo + (i : Int) < n → Pv i σ' H' → tb ⟨Pv (i + 1), rt, nx, Pv (i + 1)⟩ (σ'.set j (some (.int (lo + (i : Int))))) H') (hd : ∀ σ' H', Pv (n - lo).toNat σ' H' → nx σ' H') : aRng2 (gName j) tb ⟨nx, rt, bk, ct⟩ σ [.int lo, .int n] H :=
  ⟨lo, n, rfl, ⟨hl, hl', hn', hn⟩, for_range (lo := lo) (n := (n - lo).toNat) Pv h0 (fun i σ' H' hi p => hs i σ' H' (by omega) p) hd⟩
/-- over a list that stands still; the item is f of us's -/
theorem w_forM {α : Type} {f : α → V} {us : List α} {p : Addr} (hp : H p = some (.lst (us.map f))) (Pv : Nat → St → Hp → Prop) (h0 : Pv 0 σ H) (hl : ∀ i σ' H', i ≤ us.length → Pv i σ' H' → H' p = some (.lst (us.map f)))
    (hs : ∀ (i : Nat) (u : α) σ' H', us[i]? = some u → Pv i σ' H' → g (f u) σ' H' fun σ2 H2 => tb ⟨Pv (i + 1), rt, nx, Pv (i + 1)⟩ σ2 H2) (hd : ∀ σ' H', Pv us.length σ' H' → nx σ' H') : aFList K g tb ⟨nx, rt, bk, ct⟩ σ (.ref p) H :=
  ⟨p, rfl, ⟨_, SqL.of hp⟩, for_list (K := K) (a := p) (xs := us.map f) Pv h0 (fun i σ' H' hi q => SqL.of (hl i σ' H' (by simpa using hi) q)) (fun i x σ' H' hx q => by
    rw [List.getElem?_map] at hx
    cases e : us[i]? with
    | none => rw [e] at hx; cases hx
    | some u =>
      rw [e] at hx
      cases hx
      exact hs i u σ' H' e q) (fun σ' H' q => hd σ' H' (by simpa using q))⟩
/-- a raw list -/
theorem w_forL {xs : List V} {p : Addr} (hp : H p = some (.lst xs)) (Pv : Nat → St → Hp → Prop) (h0 : Pv 0 σ H) (hl : ∀ i σ' H', i ≤ xs.length → Pv i σ' H' → H' p = some (.lst xs))
    (hs : ∀ (i : Nat) (u : V) σ' H', xs[i]? = some u → Pv i σ' H' → g u σ' H' fun σ2 H2 => tb ⟨Pv (i + 1), rt, nx, Pv (i + 1)⟩ σ2 H2) (hd : ∀ σ' H', Pv xs.length σ' H' → nx σ' H') : aFList K g tb ⟨nx, rt, bk, ct⟩ σ (.ref p) H :=
  ⟨p, rfl, ⟨_, SqL.of hp⟩, for_list (K := K) (a := p) (xs := xs) Pv h0 (fun i σ' H' hi q => SqL.of (hl i σ' H' hi q)) hs hd⟩
theorem for_enum {a : Addr} {xs : List V} (Pv : Nat → St → Hp → Prop) (h0 : Pv 0 σ H) (hl : ∀ i σ H, i ≤ xs.length → Pv i σ H → SqL K H a xs)
    (hs : ∀ i x T σ H, xs[i]? = some x → Pv i σ H → H T = none → g (.ref T) σ (upd H T (.tup [.int (i : Nat), x])) fun σ2 H2 => tb { D with nx := Pv (i + 1), ct := Pv (i + 1), bk := D.nx } σ2 H2) (hd : ∀ σ H, Pv xs.length σ H → D.nx σ H) : aLoop (Ite K a) g tb D σ H := by
  refine ⟨fun i m σ H => m = xs.length - i ∧ i ≤ xs.length ∧ Pv i σ H, ⟨xs.length, by simp, Nat.zero_le _, h0⟩, ?_⟩
  rintro i m σ H ⟨rfl, hi, p⟩
  have q := hl i σ H hi p
  by_cases hlt : i < xs.length
  · refine .inr ⟨⟨xs, xs[i], q, by simp [hlt]⟩, Pv (i + 1), fun σ' H' p' => ⟨xs.length - (i + 1), by omega, rfl, hlt, p'⟩, fun x H' y => ?_⟩
    obtain ⟨T, z, e1, e2, e3, y⟩ := y
    subst e1 e3
    exact hs i z T σ _ (y xs q) p e2
  · have e : i = xs.length := by omega
    subst e
    exact .inl ⟨⟨xs, q, Nat.le_refl _⟩, hd σ H p⟩
/-- for i, x in enumerate(xs), i in slot j, x in slot j' -/
theorem w_enumM {α : Type} {f : α → V} {us : List α} {p : Addr} (hp : H p = some (.lst (us.map f))) (Pv : Nat → St → Hp → Prop) (h0 : Pv 0 σ H) (hl : ∀ i σ' H', i ≤ us.length → Pv i σ' H' → H' p = some (.lst (us.map f)))
    (hs : ∀ (i : Nat) (u : α) (T : Addr) σ' H', us[i]? = some u → Pv i σ' H' → H' T = none → tb ⟨Pv (i + 1), rt, nx, Pv (i + 1)⟩ ((σ'.set j (some (.int (i : Int)))).set j' (some (f u))) (upd H' T (.tup [.int (i : Int), f u]))) (hd : ∀ σ' H', Pv us.length σ' H' → nx σ' H') :
    aFEnum K (gTup K 2 (gCons (gName j) (gCons (gName j') gNil))) tb ⟨nx, rt, bk, ct⟩ σ [.ref p] H :=
  ⟨p, _, rfl, SqL.of hp, for_enum (K := K) (a := p) (xs := us.map f) Pv h0 (fun i σ' H' hi q => SqL.of (hl i σ' H' (by simpa using hi) q)) (fun i x T σ' H' hx q hT => by
    rw [List.getElem?_map] at hx
    cases e : us[i]? with
    | none => rw [e] at hx; cases hx
    | some u =>
      rw [e] at hx
      cases hx
      exact ⟨T, _, rfl, .inl (.inl upd_same), rfl, _, _, rfl, _, _, rfl, rfl, hs i u T σ' H' e q hT⟩) (fun σ' H' q => hd σ' H' (by simpa using q))⟩

/-- the items of any kind, with any target for the item -/
theorem w_enumG {g : TG} {xs : List V} {p : Addr} (hp : H p = some (.lst xs)) (Pv : Nat → St → Hp → Prop) (h0 : Pv 0 σ H) (hl : ∀ i σ' H', i ≤ xs.length → Pv i σ' H' → H' p = some (.lst xs))
    (hs : ∀ (i : Nat) (u : V) (T : Addr) σ' H', xs[i]? = some u → Pv i σ' H' → H' T = none → g u (σ'.set j (some (.int (i : Int)))) (upd H' T (.tup [.int (i : Int), u])) fun σ2 H2 => gNil [] σ2 H2 fun σ3 H3 => tb ⟨Pv (i + 1), rt, nx, Pv (i + 1)⟩ σ3 H3) (hd : ∀ σ' H', Pv xs.length σ' H' → nx σ' H') :
    aFEnum K (gTup K 2 (gCons (gName j) (gCons g gNil))) tb ⟨nx, rt, bk, ct⟩ σ [.ref p] H :=
  ⟨p, _, rfl, SqL.of hp, for_enum (K := K) (a := p) (xs := xs) Pv h0 (fun i σ' H' hi q => SqL.of (hl i σ' H' hi q)) (fun i x T σ' H' hx q hT => by
    refine ⟨T, _, rfl, .inl (.inl upd_same), rfl, _, _, rfl, _, _, rfl, ?_⟩
    exact hs i x T σ' H' hx q hT) (fun σ' H' q => hd σ' H' q)⟩

theorem w_gTup {Q : St → Hp → Prop} {a : Addr} {xs : List V} {m : Nat} {t : TGs} (hp : H a = some (.tup xs)) (hl : xs.length = m) (k : t xs σ H Q) : gTup K m t (.ref a) σ H Q := ⟨a, xs, rfl, .inl (.inl hp), hl, k⟩
theorem w_gCons {Q : St → Hp → Prop} {v : V} {r : List V} {t : TG} {u : TGs} (k : t v σ H fun σ' H' => u r σ' H' Q) : gCons t u (v :: r) σ H Q := ⟨v, r, rfl, k⟩
theorem w_gNil {Q : St → Hp → Prop} (k : Q σ H) : gNil [] σ H Q := ⟨rfl, k⟩
/-! ### a cut: what follows is shown once -/
def tCut (t u : TS) : TS := fun D σ H => ∃ Mid : St → Hp → Prop, t { D with nx := Mid } σ H ∧ ∀ σ' H', Mid σ' H' → u D σ' H'
theorem pss_cut {X : Cx} {st : Stmt} {rest : List Stmt} {t u : TS} (h1 : PS X st t) (h2 : PSs X rest u) : PSs X (st :: rest) (tCut t u) := by
  refine ⟨fun pins s σ H D I h => ?_⟩
  obtain ⟨Mid, ht, hu⟩ := h
  refine wpAny_execs_cons (thn (h1.run pins s σ H { D with nx := Mid } I ht) fun f s1 q => ?_)
  cases f with
  | next =>
    obtain ⟨σ', H', I', q⟩ := q
    exact h2.run pins s1 σ' H' D I' (hu σ' H' q)
  | ret v => exact q
  | brk => exact q
  | cont => exact q
theorem s_cut {σ : St} {H : Hp} {ts us : TS} {nx bk ct : St → Hp → Prop} {rt : VK} (Mid : St → Hp → Prop) (h1 : ts ⟨Mid, rt, bk, ct⟩ σ H) (h2 : ∀ σ' H', Mid σ' H' → us ⟨nx, rt, bk, ct⟩ σ' H') : tCut ts us ⟨nx, rt, bk, ct⟩ σ H := ⟨Mid, h1, h2⟩
/-! ### while -/
/-- the turn, once the test has come out true -/
def aTurn (Pv : St → Hp → Prop) (μ : St → Hp → Nat) (m : Nat) (tb : TS) (rt : VK) (nx : St → Hp → Prop) (σ : St) (H : Hp) : Prop :=
  ∃ N : St → Hp → Prop, (∀ σ' H', N σ' H' → ∃ m', m' < m ∧ (Pv σ' H' ∧ μ σ' H' = m')) ∧ tb ⟨N, rt, nx, N⟩ σ H
theorem w_turn {Pv : St → Hp → Prop} {μ : St → Hp → Nat} {m : Nat} (k : tb ⟨fun σ' H' => Pv σ' H' ∧ μ σ' H' < m, rt, nx, fun σ' H' => Pv σ' H' ∧ μ σ' H' < m⟩ σ H) : aTurn Pv μ m tb rt nx σ H :=
  ⟨_, fun σ' H' q => ⟨_, q.2, q.1, rfl⟩, k⟩
theorem w_while {c : TT} (Pv : St → Hp → Prop) (μ : St → Hp → Nat) (h0 : Pv σ H) (hs : ∀ σ' H', Pv σ' H' → c σ' H' fun b H1 => if b = true then aTurn Pv μ (μ σ' H') tb rt nx σ' H1 else nx σ' H1) : tWhile c tb ⟨nx, rt, bk, ct⟩ σ H :=
  ⟨fun m σ H => Pv σ H ∧ μ σ H = m, ⟨_, h0, rfl⟩, fun m σ' H' hw => by
    obtain ⟨p, rfl⟩ := hw
    exact hs σ' H' p⟩
end

/-! ### list comprehensions -/
/-- behind a turn: the list at D -/
def cNx (H0 : Hp) (D : Addr) (acc : List V) : Hp → Prop := fun H => Kp [] H0 H ∧ H D = some (.lst acc)
/-- the kept item y goes to the list at D -/
def aKeep (H0 : Hp) (D : Addr) (acc' : List V) : VK := fun y H4 => ∃ acc, H4 D = some (.lst acc) ∧ acc.length < sizeLine ∧ cNx H0 D acc' (upd H4 D (.lst (acc ++ [y])))
section
variable {σ : St} {H : Hp} {g : TG} {tt : TT} {te : TE} {tl : TE} {ta : TA} {K : PySem.W.Frag} {vs : List Nat} {Q : VK}
def aComp (J : It) (g : TG) (tt : TT) (te : TE) (vs : List Nat) (σ : St) (Q : VK) (H1 : Hp) : Prop := ∀ D, H1 D = none → ∃ W : Nat → Nat → Hp → Prop, (∃ m, W 0 m (upd H1 D (.lst []))) ∧ ∀ i m H, W i m H →
  (J.stop i H ∧ Q (.ref D) H) ∨ (J.go i H ∧ ∃ Nx : Hp → Prop, (∀ H', Nx H' → ∃ m', m' < m ∧ W (i + 1) m' H') ∧ ∀ x H', J.yld i H x H' → g x (wipe σ vs) H' fun σ2 H2 => wipe σ2 vs = wipe σ vs ∧ tt σ2 H2 fun b H3 =>
    if b = true then te σ2 H3 fun y H4 => ∃ acc, H4 D = some (.lst acc) ∧ acc.length < sizeLine ∧ Nx (upd H4 D (.lst (acc ++ [y]))) else Nx H3)
def aCList (K : PySem.W.Frag) (g : TG) (tt : TT) (te : TE) (vs : List Nat) (σ : St) (Q : VK) (x : V) (H1 : Hp) : Prop := ∃ a, x = .ref a ∧ (∃ xs, SqL K H1 a xs) ∧ aComp (Itl K a) g tt te vs σ Q H1
def aCR1 (g : TG) (tt : TT) (te : TE) (vs : List Nat) (σ : St) (Q : VK) (us : List V) (H1 : Hp) : Prop := ∃ j : Int, us = [.int j] ∧ -(2 ^ 62) ≤ j ∧ j < 2 ^ 62 ∧ aComp (Itr 0 j.toNat) g tt te vs σ Q H1
def aCR2 (g : TG) (tt : TT) (te : TE) (vs : List Nat) (σ : St) (Q : VK) (us : List V) (H1 : Hp) : Prop := ∃ i j : Int, us = [.int i, .int j] ∧ (-(2 ^ 62) ≤ i ∧ i < 2 ^ 62 ∧ -(2 ^ 62) ≤ j ∧ j < 2 ^ 62) ∧ aComp (Itr i (j - i).toNat) g tt te vs σ Q H1
def aCEnum (K : PySem.W.Frag) (g : TG) (tt : TT) (te : TE) (vs : List Nat) (σ : St) (Q : VK) (us : List V) (H1 : Hp) : Prop := ∃ a xs, us = [.ref a] ∧ SqL K H1 a xs ∧ aComp (Ite K a) g tt te vs σ Q H1
theorem s_lcL (k : tl σ H fun x H1 => aCList K g tt te vs σ Q x H1) : tLc (iList K tl) g tt te vs σ H Q := k
theorem s_lcR1 (k : ta σ H fun us H1 => aCR1 g tt te vs σ Q us H1) : tLc (iRng1 ta) g tt te vs σ H Q := k
theorem s_lcR2 (k : ta σ H fun us H1 => aCR2 g tt te vs σ Q us H1) : tLc (iRng2 ta) g tt te vs σ H Q := k
theorem s_lcE (k : ta σ H fun us H1 => aCEnum K g tt te vs σ Q us H1) : tLc (iEnum K ta) g tt te vs σ H Q := k
theorem fm_snoc {α β : Type} (ψ : α → Option β) {us : List α} {i : Nat} {u : α} (h : us[i]? = some u) : (us.take (i + 1)).filterMap ψ = (us.take i).filterMap ψ ++ (ψ u).toList := by
  have e : us.take (i + 1) = us.take i ++ [u] := by
    rw [List.take_succ, h]; rfl
  rw [e, List.filterMap_append]
  cases q : ψ u <;> simp [List.filterMap_cons, q]
theorem fm_len {α β : Type} (ψ : α → Option β) (us : List α) : (us.filterMap ψ).length ≤ us.length := List.length_filterMap_le _ _
variable {α β : Type} {f : α → V} {f' : β → V}
theorem w_lcM (ψ : α → Option β) {us : List α} {p : Addr} (hp : H p = some (.lst (us.map f))) (hz : us.length < sizeLine)
    (hs : ∀ (D : Addr) (i : Nat) (u : α) (acc : List V) (H' : Hp), H D = none → us[i]? = some u → Kp [] H H' → H' D = some (.lst acc) → acc.length < sizeLine → g (f u) (wipe σ vs) H' fun σ2 H2 => wipe σ2 vs = wipe σ vs ∧ tt σ2 H2 fun b H3 =>
      if b = true then te σ2 H3 (aKeep H D (acc ++ (ψ u).toList.map f')) else cNx H D (acc ++ (ψ u).toList.map f') H3)
    (k : ∀ D H', H D = none → Kp [] H H' → H' D = some (.lst ((us.filterMap ψ).map f')) → Q (.ref D) H') : aCList K g tt te vs σ Q (.ref p) H :=
  ⟨p, rfl, ⟨_, SqL.of hp⟩, fun D hD => lc_list (K := K) (a := p) (xs := us.map f) (fun i => cNx H D (((us.take i).filterMap ψ).map f')) ⟨Kp.refl.new hD, upd_same⟩
    (fun i H' hi q => SqL.of (q.1.at0 hp)) (fun i x H' hx q => by
      rw [List.getElem?_map] at hx
      cases e : us[i]? with
      | none => rw [e] at hx; cases hx
      | some u =>
        rw [e] at hx
        cases hx
        have hl : i < us.length := (List.getElem?_eq_some_iff.mp e).1
        have hlen : (((us.take i).filterMap ψ).map f').length < sizeLine := by
          have := fm_len ψ (us.take i)
          rw [List.length_take] at this
          rw [List.length_map]
          omega
        have h := hs D i u _ H' hD e q.1 q.2 hlen
        have e2 : ((us.take (i + 1)).filterMap ψ).map f' = ((us.take i).filterMap ψ).map f' ++ (ψ u).toList.map f' := by rw [fm_snoc ψ e, List.map_append]
        rw [e2]
        exact h) (fun H' q => k D H' hD q.1 (by
          have := q.2
          rw [List.length_map, List.take_length] at this
          exact this))⟩
theorem w_lcR (ψ : Nat → Option β) {lo n : Int} (hl1 : -(2 ^ 62) ≤ lo) (hl2 : lo < 2 ^ 62) (hn1 : -(2 ^ 62) ≤ n) (hn2 : n < 2 ^ 62) (hz : (n - lo).toNat < sizeLine)
    (hs : ∀ (D : Addr) (i : Nat) (acc : List V) (H' : Hp), H D = none → lo + (i : Int) < n → Kp [] H H' → H' D = some (.lst acc) → acc.length < sizeLine → g (.int (lo + (i : Int))) (wipe σ vs) H' fun σ2 H2 => wipe σ2 vs = wipe σ vs ∧ tt σ2 H2 fun b H3 =>
      if b = true then te σ2 H3 (aKeep H D (acc ++ (ψ i).toList.map f')) else cNx H D (acc ++ (ψ i).toList.map f') H3)
    (k : ∀ D H', H D = none → Kp [] H H' → H' D = some (.lst (((List.range (n - lo).toNat).filterMap ψ).map f')) → Q (.ref D) H') : aComp (Itr lo (n - lo).toNat) g tt te vs σ Q H :=
  fun D hD => lc_range (lo := lo) (n := (n - lo).toNat) (fun i => cNx H D (((List.range i).filterMap ψ).map f')) ⟨Kp.refl.new hD, upd_same⟩ (fun i H' hi q => by
      have hlen : (((List.range i).filterMap ψ).map f').length < sizeLine := by
        have := fm_len ψ (List.range i)
        rw [List.length_range] at this
        rw [List.length_map]
        omega
      have h := hs D i _ H' hD (by omega) q.1 q.2 hlen
      have e2 : ((List.range (i + 1)).filterMap ψ).map f' = ((List.range i).filterMap ψ).map f' ++ (ψ i).toList.map f' := by
        rw [List.range_succ, List.filterMap_append, List.map_append]
        cases q : ψ i <;> simp [List.filterMap_cons, q]
      rw [e2]
      exact h) (fun H' q => k D H' hD q.1 q.2)
theorem w_lcR1 (ψ : Nat → Option β) {n : Int} (hn1 : -(2 ^ 62) ≤ n) (hn2 : n < 2 ^ 62) (hz : n.toNat < sizeLine)
    (hs : ∀ (D : Addr) (i : Nat) (acc : List V) (H' : Hp), H D = none → (i : Int) < n → Kp [] H H' → H' D = some (.lst acc) → acc.length < sizeLine → g (.int (i : Int)) (wipe σ vs) H' fun σ2 H2 => wipe σ2 vs = wipe σ vs ∧ tt σ2 H2 fun b H3 =>
      if b = true then te σ2 H3 (aKeep H D (acc ++ (ψ i).toList.map f')) else cNx H D (acc ++ (ψ i).toList.map f') H3)
    (k : ∀ D H', H D = none → Kp [] H H' → H' D = some (.lst (((List.range n.toNat).filterMap ψ).map f')) → Q (.ref D) H') : aCR1 g tt te vs σ Q [.int n] H := by
  have q := w_lcR (H := H) (g := g) (tt := tt) (te := te) (σ := σ) (vs := vs) (Q := Q) (f' := f') ψ (lo := 0) (n := n) (by omega) (by omega) hn1 hn2 (by simpa using hz) (fun D i acc H' h1 h2 h3 h4 h5 => by
    rw [Int.zero_add]
    exact hs D i acc H' h1 (by omega) h3 h4 h5) (by simpa using k)
  exact ⟨n, rfl, hn1, hn2, by simpa using q⟩
theorem w_lcR2 (ψ : Nat → Option β) {lo n : Int} (hl1 : -(2 ^ 62) ≤ lo) (hl2 : lo < 2 ^ 62) (hn1 : -(2 ^ 62) ≤ n) (hn2 : n < 2 ^ 62) (hz : (n - lo).toNat < sizeLine)
    (hs : ∀ (D : Addr) (i : Nat) (acc : List V) (H' : Hp), H D = none → lo + (i : Int) < n → Kp [] H H' → H' D = some (.lst acc) → acc.length < sizeLine → g (.int (lo + (i : Int))) (wipe σ vs) H' fun σ2 H2 => wipe σ2 vs = wipe σ vs ∧ tt σ2 H2 fun b H3 =>
      if b = true then te σ2 H3 (aKeep H D (acc ++ (ψ i).toList.map f')) else cNx H D (acc ++ (ψ i).toList.map f') H3)
    (k : ∀ D H', H D = none → Kp [] H H' → H' D = some (.lst (((List.range (n - lo).toNat).filterMap ψ).map f')) → Q (.ref D) H') : aCR2 g tt te vs σ Q [.int lo, .int n] H :=
  ⟨lo, n, rfl, ⟨hl1, hl2, hn1, hn2⟩, w_lcR ψ hl1 hl2 hn1 hn2 hz hs k⟩
/-- the item is kept -/
theorem w_keep {D : Addr} {acc : List V} {o : Option β} {b : β} {H4 : Hp} (hk : Kp [] H H4) (hD : H4 D = some (.lst acc)) (hl : acc.length < sizeLine) (hn : H D = none) (e : o = some b) : aKeep H D (acc ++ o.toList.map f') (f' b) H4 := by
  subst e
  exact ⟨acc, hD, hl, hk.own hn, upd_same⟩
theorem w_drop {D : Addr} {acc : List V} {o : Option β} {H4 : Hp} (hk : Kp [] H H4) (hD : H4 D = some (.lst acc)) (e : o = none) : cNx H D (acc ++ o.toList.map f') H4 := by
  subst e
  exact ⟨hk, by simpa using hD⟩
/-- behind a turn of a comprehension whose turns change other things, too -/
def gNx (ms : List Addr) (H0 : Hp) (D : Addr) (J : Nat → List V → Hp → Prop) (i : Nat) (H : Hp) : Prop := ∃ acc : List V, acc.length ≤ i ∧ Kp ms H0 H ∧ H D = some (.lst acc) ∧ J i acc H
def gKeep (ms : List Addr) (H0 : Hp) (D : Addr) (J : Nat → List V → Hp → Prop) (i : Nat) : VK := fun y H4 => ∃ acc, H4 D = some (.lst acc) ∧ acc.length < sizeLine ∧ gNx ms H0 D J i (upd H4 D (.lst (acc ++ [y])))
theorem w_lcRG {lo n : Int} (ms : List Addr) (J : Addr → Nat → List V → Hp → Prop)
    (h0 : ∀ D, H D = none → J D 0 [] (upd H D (.lst [])))
    (hs : ∀ (D : Addr) (i : Nat) (acc : List V) (H' : Hp), H D = none → lo + (i : Int) < n → acc.length ≤ i → Kp ms H H' → H' D = some (.lst acc) → J D i acc H' → g (.int (lo + (i : Int))) (wipe σ vs) H' fun σ2 H2 => wipe σ2 vs = wipe σ vs ∧ tt σ2 H2 fun b H3 =>
      if b = true then te σ2 H3 (gKeep ms H D (J D) (i + 1)) else gNx ms H D (J D) (i + 1) H3)
    (k : ∀ D acc H', H D = none → acc.length ≤ (n - lo).toNat → Kp ms H H' → H' D = some (.lst acc) → J D (n - lo).toNat acc H' → Q (.ref D) H') : aComp (Itr lo (n - lo).toNat) g tt te vs σ Q H :=
  fun D hD => lc_range (lo := lo) (n := (n - lo).toNat) (fun i => gNx ms H D (J D) i) ⟨[], Nat.zero_le _, Kp.refl.new hD, upd_same, h0 D hD⟩ (fun i H' hi q => by
      obtain ⟨acc, q1, q2, q3, q4⟩ := q
      exact hs D i acc H' hD (by omega) q1 q2 q3 q4) (fun H' q => by
      obtain ⟨acc, q1, q2, q3, q4⟩ := q
      exact k D acc H' hD q1 q2 q3 q4)
theorem w_lcRG2 {lo n : Int} (ms : List Addr) (J : Addr → Nat → List V → Hp → Prop) (hl1 : -(2 ^ 62) ≤ lo) (hl2 : lo < 2 ^ 62) (hn1 : -(2 ^ 62) ≤ n) (hn2 : n < 2 ^ 62)
    (h0 : ∀ D, H D = none → J D 0 [] (upd H D (.lst [])))
    (hs : ∀ (D : Addr) (i : Nat) (acc : List V) (H' : Hp), H D = none → lo + (i : Int) < n → acc.length ≤ i → Kp ms H H' → H' D = some (.lst acc) → J D i acc H' → g (.int (lo + (i : Int))) (wipe σ vs) H' fun σ2 H2 => wipe σ2 vs = wipe σ vs ∧ tt σ2 H2 fun b H3 =>
      if b = true then te σ2 H3 (gKeep ms H D (J D) (i + 1)) else gNx ms H D (J D) (i + 1) H3)
    (k : ∀ D acc H', H D = none → acc.length ≤ (n - lo).toNat → Kp ms H H' → H' D = some (.lst acc) → J D (n - lo).toNat acc H' → Q (.ref D) H') : aCR2 g tt te vs σ Q [.int lo, .int n] H :=
  ⟨lo, n, rfl, ⟨hl1, hl2, hn1, hn2⟩, w_lcRG ms J h0 hs k⟩
theorem w_lcRG1 {n : Int} (ms : List Addr) (J : Addr → Nat → List V → Hp → Prop) (hn1 : -(2 ^ 62) ≤ n) (hn2 : n < 2 ^ 62)
    (h0 : ∀ D, H D = none → J D 0 [] (upd H D (.lst [])))
    (hs : ∀ (D : Addr) (i : Nat) (acc : List V) (H' : Hp), H D = none → (i : Int) < n → acc.length ≤ i → Kp ms H H' → H' D = some (.lst acc) → J D i acc H' → g (.int (i : Int)) (wipe σ vs) H' fun σ2 H2 => wipe σ2 vs = wipe σ vs ∧ tt σ2 H2 fun b H3 =>
      if b = true then te σ2 H3 (gKeep ms H D (J D) (i + 1)) else gNx ms H D (J D) (i + 1) H3)
    (k : ∀ D acc H', H D = none → acc.length ≤ n.toNat → Kp ms H H' → H' D = some (.lst acc) → J D n.toNat acc H' → Q (.ref D) H') : aCR1 g tt te vs σ Q [.int n] H := by
  have q := w_lcRG (H := H) (g := g) (tt := tt) (te := te) (σ := σ) (vs := vs) (Q := Q) (lo := 0) (n := n) ms J h0 (fun D i acc H' h1 h2 h3 h4 h5 h6 => by
    rw [Int.zero_add]
    exact hs D i acc H' h1 (by omega) h3 h4 h5 h6) (by simpa using k)
  exact ⟨n, rfl, hn1, hn2, by simpa using q⟩
theorem w_keepG {ms : List Addr} {J : Nat → List V → Hp → Prop} {D : Addr} {acc : List V} {i : Nat} {y : V} {H4 : Hp} (hk : Kp ms H H4) (hD : H4 D = some (.lst acc)) (hl : acc.length ≤ i) (hz : i < sizeLine) (hn : H D = none) (j : J (i + 1) (acc ++ [y]) (upd H4 D (.lst (acc ++ [y])))) : gKeep ms H D J (i + 1) y H4 :=
  ⟨acc, hD, by omega, acc ++ [y], by rw [List.length_append]; simpa using hl, hk.own hn, upd_same, j⟩
theorem w_dropG {ms : List Addr} {J : Nat → List V → Hp → Prop} {D : Addr} {acc : List V} {i : Nat} {H4 : Hp} (hk : Kp ms H H4) (hD : H4 D = some (.lst acc)) (hl : acc.length ≤ i) (j : J (i + 1) acc H4) : gNx ms H D J (i + 1) H4 :=
  ⟨acc, by omega, hk, hD, j⟩
theorem s_yes {Q : Bool → Hp → Prop} (k : Q true H) : tYes σ H Q := k
theorem fm_some {h : α → β} {us : List α} : us.filterMap (fun u => some (h u)) = us.map h := by
  rw [← List.filterMap_eq_map]; rfl
end

/-! ### try, except -/
section
variable {K : PySem.W.Frag} {c cls : Value} {d : Option Addr} {i : Nat} {ts : Addr → Value → Option Addr → TS} {Wout : WX} {nx bk ct : St → Hp → Prop} {rt : VK} {σ : St} {H : Hp}
theorem w_asT (e : PySem.W.exmOne K cls c = some true) (k : ∀ a, H a = none → ts a cls d ⟨fun σ' H' => nx (σ'.set i none) H', rt, fun σ' H' => bk (σ'.set i none) H', fun σ' H' => ct (σ'.set i none) H'⟩ (σ.set i (some (.ref a))) H) : wAs K c i ts Wout ⟨nx, rt, bk, ct⟩ cls d σ H :=
  ⟨true, e, fun _ => k, fun q => Bool.noConfusion q⟩
theorem w_asF {D : Ends} (e : PySem.W.exmOne K cls c = some false) (k : Wout cls d σ H) : wAs K c i ts Wout D cls d σ H :=
  ⟨false, e, fun q => Bool.noConfusion q, fun _ => k⟩
/-- e.f, e the caught exception at a, of the class cls, its dict d -/
def tXfG (K : PySem.W.Frag) (a : Addr) (cls : Value) (d : Option Addr) (f : Str) (te : TE) : TE := fun σ H Q => te σ H fun x H1 => x = .ref a ∧ ∃ (C dd : Addr) (fs : List (Str × V)) (v : V), cls = .ref C ∧ d = some dd ∧ XfC K C ∧ PySem.W.findIn K (.ref C) f = some none ∧ H1 dd = some (.xd fs) ∧ fs.lookup f = some v ∧ Q v H1
theorem pe_xfG {X : Cx} {a : Addr} {oe : Obj} {cls : Value} {d : Option Addr} {pn : List (Addr × Obj)} {e : Expr} {te : TE} {pos : Pos} {n : Str}
    (hz : Zc cls d oe) (hf : ∃ vs, oe.data = .fields vs) (he : PE (X.suite a ((a, oe) :: pn)) e te) (hb : attributeBase e n X.env (eval e X.env) = eval e X.env := by rfl) :
    PE (X.suite a ((a, oe) :: pn)) (.Attribute e n pos) (tXfG X.K a cls d n te) := by
  refine ⟨fun pins s σ H Q I h => ?_⟩
  refine attr_of hb (thn (he.run pins s σ H _ I h) fun u s1 hh => ?_)
  obtain ⟨x, H1, I1, rx, ex, C, dd, fs, v, ec, ed, T, hno, ea, l, q⟩ := hh
  subst ex
  obtain rfl : u = Value.ref a := rx
  subst ec
  subst ed
  obtain ⟨ha, _⟩ := I1.pin (a, oe) (List.mem_append_left _ List.mem_cons_self)
  obtain ⟨vs, hd⟩ := hf
  have hx : ObjOk X.prog X.w H1 s1.heap dd (.xd fs) := I1.hok dd _ ea
  obtain ⟨mA, hns, hr⟩ := hx
  obtain ⟨od, ho, hl⟩ := lookIn_ns hns
  obtain ⟨u, hu, ru⟩ := RelO.some_of (v := v) (o := mA n) (by rw [← l]; exact hr n)
  have J : PySem.W.InstAt s1.heap a oe C (some od) := ⟨ha, hz.1, by unfold PySem.W.notCls; rw [hd] <;> rfl, by rw [hz.2]; exact ho⟩
  exact HandSPX.exc_get I1.kIn J T.ga T.gg T.exC (PySem.W.findObj_own T.hdC hno rfl (by rw [hl, hu])) (handed_of ru) ⟨v, H1, I1.tok _, ru, q⟩
/-- isinstance(e, C) of the caught exception -/
def rIsG (K : PySem.W.Frag) (a : Addr) (cls : Value) (d : Option Addr) : List V → Hp → VK → Prop := fun xs H Q => ∃ (C dd : Addr) (fs : List (Str × V)) (c : V) (cv : Value) (b : Bool), xs = [.ref a, c] ∧ cls = .ref C ∧ d = some dd ∧ H dd = some (.xd fs) ∧ ExcC K C ∧ ClsV c cv ∧ PySem.W.kitOne K (.ref C) cv = some b ∧ Q (.bl b) H
theorem call_isG {X : Cx} {a : Addr} {oe : Obj} {cls : Value} {d : Option Addr} {pn : List (Addr × Obj)} (hz : Zc cls d oe) (hf : ∃ vs, oe.data = .fields vs) : CallR (X.suite a ((a, oe) :: pn)) (.builtin "isinstance") (rIsG X.K a cls d) := by
  intro pins s σ H xs us Q I r h
  obtain ⟨C, dd, fs, c, cv, b, rfl, rfl, rfl, hdd, E, hcv, e, q⟩ := h
  obtain ⟨u1, u2, rfl, r1, r2⟩ := vals2 r
  have e2 := hcv.eq r2
  subst e2
  cases r1
  obtain ⟨ha, _⟩ := I.pin (a, oe) (List.mem_append_left _ List.mem_cons_self)
  obtain ⟨vs, hd⟩ := hf
  have hx : ObjOk X.prog X.w H s.heap dd (.xd fs) := I.hok dd _ hdd
  obtain ⟨mA, hns, hr⟩ := hx
  obtain ⟨od, ho, hl⟩ := lookIn_ns hns
  have J : PySem.W.InstAt s.heap a oe C (some od) := ⟨ha, hz.1, by unfold PySem.W.notCls; rw [hd] <;> rfl, by rw [hz.2]; exact ho⟩
  have hcl : (PySem.W.clsIn X.K C).isSome = true := by
    obtain ⟨cd, hc, _⟩ := PySem.W.any_some E.hd
    rw [hc]; rfl
  exact PySem.W.kia_one (PySem.W.kitx_exc hcl E.hg E.hk E.hs E.ha E.hn E.ht E.hm) I.kIn J e (fun z => nomatch z) fun tk => ⟨.bl b, H, I.kept (t' := tk) fun _ _ z => z, rfl, q⟩
end
/-- in the suite: the exception that is handled has no context -/
theorem hot_suite {X : Cx} {a : Addr} {oe : Obj} {cls : Value} {d : Option Addr} {pn : List (Addr × Obj)} (hz : L2N.Zn cls d oe) (hf : ∃ vs, oe.data = .fields vs) : L2H.HotC (X.suite a ((a, oe) :: pn)) := by
  obtain ⟨vs, hd⟩ := hf
  exact ⟨(a, oe), ⟨rfl, vs, hd, hz.2.2 vs hd⟩, List.mem_cons_self⟩
end Lk
namespace Lk
open PySem PySem.Spec PyProof.Rows L2

/-! ### a op b op c op d -/
def tChain3 (r r' r'' : R2) (ta tb tc td : TE) : TE := fun σ H Q => ta σ H fun x H1 => tb σ H1 fun y H2 => r x y H2 fun z H3 => aB z H3 fun k H3 =>
  if k = true then tc σ H3 fun w' H4 => r' y w' H4 fun z H5 => aB z H5 fun k H5 => if k = true then td σ H5 fun v' H6 => r'' w' v' H6 Q else Q (.bl false) H5 else Q (.bl false) H3
theorem s_chain3 {σ : St} {H : Hp} {Q : VK} {r r' r'' : R2} {ta tb tc td : TE} (k : ta σ H fun x H1 => tb σ H1 fun y H2 => r x y H2 fun z H3 => aB z H3 fun k H3 =>
  if k = true then tc σ H3 fun w' H4 => r' y w' H4 fun z H5 => aB z H5 fun k H5 => if k = true then td σ H5 fun v' H6 => r'' w' v' H6 Q else Q (.bl false) H5 else Q (.bl false) H3) : tChain3 r r' r'' ta tb tc td σ H Q := k
theorem pt_chain3A {X : Cx} {op op' op'' : CmpOp} {r r' r'' : R2} {e1 e2 e3 e4 : Expr} {ta tb tc td : TE} {pos : Pos} (ho : OpR X (compareOp op) r) (ho' : OpR X (compareOp op') r') (ho'' : OpR X (compareOp op'') r'') (ha : PE X e1 ta) (hb : PE X e2 tb) (hc : PE X e3 tc) (hd : PE X e4 td)
    (hm : lastMarks [op, op', op''] [e2, e3, e4] = false := by with_unfolding_all rfl) : PT X (.Compare e1 [op, op', op''] [e2, e3, e4] pos) (cB (tChain3 r r' r'' ta tb tc td)) := by
  refine ⟨fun pins s σ H Q I h => ?_⟩
  refine isTrue_chain (thn (ha.run pins s σ H _ I h) fun v s1 ⟨x, H1, I1, r1, q1⟩ => test_link (thn (hb.run pins s1 σ H1 _ I1 q1) fun u s2 ⟨y, H2, I2, r2, q2⟩ =>
    thn (ho pins s2 σ H2 x y v u _ I2 r1 r2 q2) fun d s3 ⟨z, H3, I3, r3, k, e, q3⟩ => ?_)) hm
  subst e
  cases r3
  refine wpAny_truthy_bool ?_
  cases k with
  | false =>
    obtain ⟨k', e', q'⟩ := q3
    cases e'
    exact ite_ff ⟨H3, I3, q'⟩
  | true =>
    refine ite_tt (test_link (thn (hc.run pins s3 σ H3 _ I3 q3) fun w' s4 ⟨z', H4, I4, r4, q4⟩ => thn (ho' pins s4 σ H4 y z' u w' _ I4 r2 r4 q4) fun d' s5 ⟨z2, H5, I5, r5, k2, e2, q5⟩ => ?_))
    subst e2
    cases r5
    refine wpAny_truthy_bool ?_
    cases k2 with
    | false =>
      obtain ⟨k', e', q'⟩ := q5
      cases e'
      exact ite_ff ⟨H5, I5, q'⟩
    | true =>
      refine ite_tt (test_last (thn (hd.run pins s5 σ H5 _ I5 q5) fun w6 s6 ⟨z6, H6, I6, r6, q6⟩ => thn (ho'' pins s6 σ H6 z' z6 w' w6 _ I6 r4 r6 q6) fun d7 s7 ⟨z7, H7, I7, r7, k7, e7, q7⟩ => ?_))
      subst e7
      cases r7
      exact wpAny_truthy_bool ⟨H7, I7, q7⟩

theorem roomH_units {k : Nat} {A : Around} (r : L2H.RoomH k A) : A.units + 64 < cLine := by have := r.un; omega
theorem roomH_s {j k : Nat} {A A' : Around} (r : L2H.RoomH j A) (h : k ≤ j) (e1 : A'.depth = A.depth) (e2 : A'.units = A.units) : L2H.RoomH k A' :=
  ⟨by have := r.dp; omega, by have := r.un; omega⟩
/-! ### addresses -/
theorem ne_n {H : Hp} {a b : Addr} {o : HO} (h' : H b = none) (h : H a = some o) : a ≠ b := ne_of_none h h'
theorem ne_n' {H : Hp} {a b : Addr} {o : HO} (h' : H a = none) (h : H b = some o) : a ≠ b := Ne.symm (ne_of_none h h')
theorem upd_new {H : Hp} {p a : Addr} {o u : HO} (n : H p = none) (h : H a = some u) : upd H p o a = some u := upd_get (ne_of_none h n) h
/-- another kind of thing was at p -/
theorem upd_kind {H : Hp} {p a : Addr} {o u u' : HO} (hp : H p = some u') (h : H a = some u) (n : u ≠ u') : upd H p o a = some u := upd_get (ne_of h hp n) h
/-! ### members -/
section
variable {i : Int} {p : Addr} {H : Hp} {Q : VK} {us : List Int} {K : PySem.W.Frag}
theorem eqV_int (a b : Int) : eqV (.int a) (.int b) = decide (a = b) := by
  have : eqV (.int a) (.int b) = (a == b) := rfl
  rw [this]; rfl
theorem inV_int : ∀ us : List Int, inV (.int i) (us.map V.int) = decide (i ∈ us)
  | [] => by simp [inV]
  | u :: us => by
    have h := inV_int us
    unfold inV at h ⊢
    rw [List.map_cons, List.any_cons, h, eqV_int]
    by_cases z : u = i
    · simp [z]
    · have z2 : ¬ i = u := fun q => z q.symm
      simp [z, z2]
theorem flat_int : ∀ us : List Int, (us.map V.int).all flatV = true
  | [] => rfl
  | u :: us => by rw [List.map_cons, List.all_cons, flat_int us]; rfl
theorem w_inI (hp : H p = some (.lst (us.map V.int))) (k : Q (.bl (decide (i ∈ us))) H) : rIn K false (.int i) (.ref p) H Q :=
  ⟨p, _, rfl, .inl (SqL.of hp), rfl, flat_int us, by rw [inV_int]; exact k⟩
theorem w_notInI (hp : H p = some (.lst (us.map V.int))) (k : Q (.bl (!decide (i ∈ us))) H) : rIn K true (.int i) (.ref p) H Q :=
  ⟨p, _, rfl, .inl (SqL.of hp), rfl, flat_int us, by rw [inV_int]; exact k⟩
theorem w_eqLI' {ns ms : List Int} {q : Addr} (hp : H p = some (.lst (ns.map V.int))) (hq : H q = some (.lst (ms.map V.int))) (k : Q (.bl (decide (ns = ms))) H) : aEq K (.ref p) (.ref q) H Q := w_eqLI (SqL.of hp) (SqL.of hq) k
theorem w_eqLI0 {ns : List Int} {q : Addr} (hp : H p = some (.lst (ns.map V.int))) (hq : H q = some (.lst [])) (k : Q (.bl (decide (ns = []))) H) : aEq K (.ref p) (.ref q) H Q := w_eqLI (ms := []) (SqL.of hp) (SqL.of hq) k
theorem w_neLI' {ns ms : List Int} {q : Addr} (hp : H p = some (.lst (ns.map V.int))) (hq : H q = some (.lst (ms.map V.int))) (k : Q (.bl (!decide (ns = ms))) H) : aNe K (.ref p) (.ref q) H Q := w_neLI (SqL.of hp) (SqL.of hq) k
theorem w_neLI0 {ns : List Int} {q : Addr} (hp : H p = some (.lst (ns.map V.int))) (hq : H q = some (.lst [])) (k : Q (.bl (!decide (ns = []))) H) : aNe K (.ref p) (.ref q) H Q := w_neLI (ms := []) (SqL.of hp) (SqL.of hq) k
end
/-! ### raise -/
theorem s_mkx {C : Addr} {fs : List Str} {ta : TA} {σ : St} {H : Hp} {Q : XK} (k : ta σ H fun vs H1 => vs.length = fs.length ∧ ∀ d, H1 d = none → Q (.ref C) (some d) (upd H1 d (.xd (fs.zip vs)))) : tMkX C fs ta σ H Q := k
theorem w_and {A B : Prop} (a : A) (b : B) : A ∧ B := ⟨a, b⟩
theorem s_xf {K : PySem.W.Frag} {a : Addr} {cls : Value} {d : Option Addr} {f : Str} {te : TE} {σ : St} {H : Hp} {Q : VK} (k : te σ H fun x H1 => x = .ref a ∧ ∃ (C dd : Addr) (fs : List (Str × V)) (v : V), cls = .ref C ∧ d = some dd ∧ XfC K C ∧ PySem.W.findIn K (.ref C) f = some none ∧ H1 dd = some (.xd fs) ∧ fs.lookup f = some v ∧ Q v H1) : tXfG K a cls d f te σ H Q := k
/-- the exception's field -/
def aXf (K : PySem.W.Frag) (a : Addr) (C : Addr) (dd : Addr) (f : Str) (Q : VK) : VK := fun x H1 => x = .ref a ∧ ∃ (fs : List (Str × V)) (v : V), XfC K C ∧ PySem.W.findIn K (.ref C) f = some none ∧ H1 dd = some (.xd fs) ∧ fs.lookup f = some v ∧ Q v H1
theorem s_xfR {K : PySem.W.Frag} {a C dd : Addr} {f : Str} {te : TE} {σ : St} {H : Hp} {Q : VK} (k : te σ H (aXf K a C dd f Q)) : tXfG K a (.ref C) (some dd) f te σ H Q := by
  have e : (fun x H1 => x = V.ref a ∧ ∃ (C' dd' : Addr) (fs : List (Str × V)) (v : V), Value.ref C = .ref C' ∧ some dd = some dd' ∧ XfC K C' ∧ PySem.W.findIn K (.ref C') f = some none ∧ H1 dd' = some (.xd fs) ∧ fs.lookup f = some v ∧ Q v H1) = aXf K a C dd f Q := by
    funext x H1
    apply propext
    constructor
    · rintro ⟨e, C', dd', fs, v, h1, h2, h3⟩
      cases h1
      cases h2
      exact ⟨e, fs, v, h3⟩
    · rintro ⟨e, fs, v, h3⟩
      exact ⟨e, C, dd, fs, v, rfl, rfl, h3⟩
  unfold tXfG
  rw [e]
  exact k
theorem w_xf {K : PySem.W.Frag} {a C dd : Addr} {f : Str} {H : Hp} {Q : VK} {fs : List (Str × V)} {v : V} (hd : H dd = some (.xd fs)) (hC : XfC K C) (hn : PySem.W.findIn K (.ref C) f = some none) (hl : fs.lookup f = some v) (k : Q v H) : aXf K a C dd f Q (.ref a) H := ⟨rfl, fs, v, hC, hn, hd, hl, k⟩
theorem w_isG {K : PySem.W.Frag} {a C D dd : Addr} {H : Hp} {Q : VK} {fs : List (Str × V)} {b : Bool} (hd : H dd = some (.xd fs)) (E : ExcC K C) (e : PySem.W.kitOne K (.ref C) (.ref D) = some b) (k : Q (.bl b) H) : rIsG K a (.ref C) (some dd) [.ref a, .ref D] H Q :=
  ⟨C, dd, fs, _, _, b, rfl, rfl, rfl, hd, E, .own D, e, k⟩
theorem w_isGv {K : PySem.W.Frag} {a C dd : Addr} {n : String} {H : Hp} {Q : VK} {fs : List (Str × V)} {b : Bool} (hd : H dd = some (.xd fs)) (E : ExcC K C) (e : PySem.W.kitOne K (.ref C) (.type n) = some b) (k : Q (.bl b) H) : rIsG K a (.ref C) (some dd) [.ref a, .ty n] H Q :=
  ⟨C, dd, fs, _, _, b, rfl, rfl, rfl, hd, E, .ty n, e, k⟩

/-! ### lists of pairs of ints -/
/-- xs holds, one by one, tuples of the pairs ps -/
inductive Prs (H : Hp) : List V → List (Int × Int) → Prop
  | nil : Prs H [] []
  | cons {r xs i j ps} : H r = some (.tup [.int i, .int j]) → Prs H xs ps → Prs H (.ref r :: xs) ((i, j) :: ps)
theorem Prs.kp {H H' : Hp} {xs : List V} {ps : List (Int × Int)} (h : Prs H xs ps) (k : ∀ a o, (∃ i j, o = HO.tup [.int i, .int j]) → H a = some o → H' a = some o) : Prs H' xs ps := by
  induction h with
  | nil => exact .nil
  | cons h1 _ ih => exact .cons (k _ _ ⟨_, _, rfl⟩ h1) ih
theorem Prs.len {H : Hp} {xs : List V} {ps : List (Int × Int)} (h : Prs H xs ps) : xs.length = ps.length := by
  induction h with
  | nil => rfl
  | cons _ _ ih => simp [ih]
theorem Prs.snoc {H : Hp} {xs : List V} {ps : List (Int × Int)} {r : Addr} {i j : Int} (h : Prs H xs ps) (e : H r = some (.tup [.int i, .int j])) : Prs H (xs ++ [.ref r]) (ps ++ [(i, j)]) := by
  induction h with
  | nil => exact .cons e .nil
  | cons h1 _ ih => exact .cons h1 ih
theorem Prs.get {H : Hp} {xs : List V} {ps : List (Int × Int)} (h : Prs H xs ps) : ∀ {k : Nat} {p : Int × Int}, ps[k]? = some p → ∃ r, xs[k]? = some (.ref r) ∧ H r = some (.tup [.int p.1, .int p.2]) := by
  induction h with
  | nil => intro k p e; simp at e
  | cons h1 _ ih =>
    intro k p e
    cases k with
    | zero => simp at e; subst e; exact ⟨_, rfl, h1⟩
    | succ k => simpa using ih (by simpa using e)
theorem Prs.new {H : Hp} {xs : List V} {ps : List (Int × Int)} {p : Addr} {o : HO} (h : Prs H xs ps) (hp : H p = none) : Prs (upd H p o) xs ps := h.kp fun a u _ e => by rw [upd_ne (ne_of_none e hp)]; exact e
/-- a list is changed -/
theorem Prs.mut {H : Hp} {xs ys : List V} {ps : List (Int × Int)} {p : Addr} {o : HO} (h : Prs H xs ps) (hp : H p = some (.lst ys)) : Prs (upd H p o) xs ps := h.kp fun a u z e => by
  obtain ⟨i, j, rfl⟩ := z
  rw [upd_ne (ne_of e hp (by intro q; cases q))]; exact e
theorem Prs.kp0 {H H' : Hp} {xs : List V} {ps : List (Int × Int)} (h : Prs H xs ps) (k : Kp [] H H') : Prs H' xs ps := h.kp fun a o _ e => k a o e List.not_mem_nil
theorem Prs.nilI {H : Hp} : Prs H [] [] := .nil
end Lk
namespace Lk
open PySem PySem.W PySem.Spec PyProof.Rows L2
theorem noCX {P : Program} (w : World) (H : L2.Hp) (s : Shared) (e : Value) (s' : Shared) (h : L2N.CX P w [] H s (fun _ _ _ => False) e s') : False := by
  obtain ⟨_, _, _, _, _, _, _, _, _, _, _, _, z⟩ := h
  exact z
section
variable {P : Program} {w : World} {K : Frag} {mg : Str → Option Value} {base : Heap}
theorem FnOk_of {x qual : Str} {st : Stmt} {f : Addr} {fd : FuncData} {N ps : List Str} {k : Nat} {sp : L2.Sp} (F : L2.Fun K x qual st f fd) (S : L2.FnScope N ps (L2.defScope st)) (len : ∀ vs H Q E, sp vs H Q E → vs.length = ps.length)
    (hbody : ∀ (cdv : Value) (A : Around) (outer : List Env) (s : Shared) (H : L2.Hp) (vs : List L2.V) (Q : L2.VK) (E : L2.XK), L2.Room k (A.deeper (envOfC qual (L2.defScope st) s.heap.objs.size f cdv)) → L2N.Takes (L2.cxOf (L2N.CX P w) P w K mg base N qual (L2.defScope st) f cdv A outer s H E) (fun cls d _ H' => E cls d H') →
      PassesOwn (model P w) (L2.cxOf (L2N.CX P w) P w K mg base N qual (L2.defScope st) f cdv A outer s H E).A (L2.cxOf (L2N.CX P w) P w K mg base N qual (L2.defScope st) f cdv A outer s H E).env (L2.cxOf (L2N.CX P w) P w K mg base N qual (L2.defScope st) f cdv A outer s H E).xe → sp vs H Q E →
      ∃ t, L2.PSs (L2.cxOf (L2N.CX P w) P w K mg base N qual (L2.defScope st) f cdv A outer s H E) (L2.defBody st) t ∧ t { nx := fun _ H' => Q .non H', rt := Q } (L2.start N vs) H) : L2.FnOk P w K mg base (L2N.CX P w) (k + 1) f fd ps sp := by
  obtain ⟨oc, od, kV, doc, pm, an, cdv, ct, osl, rfl, lk, hcd⟩ := F.ex
  exact L2.fn_of lk hcd S len fun A outer s H vs Q E hr hsp => hbody cdv A outer s H vs Q E hr (L2N.takes_of rfl rfl rfl rfl) (passes_of rfl) hsp
end
/-- facts of all of a list's members -/
def AllIn (K : Frag) (C : Addr) : List Str → Prop
  | [] => True
  | f :: fs => findIn K (.ref C) f = some none ∧ AllIn K C fs
theorem all_in {K : Frag} {C : Addr} : ∀ {fs : List Str}, AllIn K C fs → ∀ f ∈ fs, findIn K (.ref C) f = some none
  | [], _ => fun f hf => by cases hf
  | g :: fs, h => fun f hf => by
    rcases List.mem_cons.mp hf with z | z
    · rw [z]; exact h.1
    · exact all_in h.2 f z
section
variable {K : Frag} {C D : Addr} {b : Bool}
/-- D is an exception class -/
structure DC (K : Frag) (D : Addr) : Prop where
  i : isClsIn K D = true
  t : typeIn K (.ref D) = some (.type "type")
  b : subIn K (.ref D) (.type "BaseException") = some true
theorem kit_cls' (d : DC K D) (s : subIn K (.ref C) (.ref D) = some b) : kitCls K (.ref C) (.ref D) = some b := by
  have h2' : (clsIn K D).isSome = true := d.i
  have e2 : ((clsIn K D).isSome && typeIn K (.ref D) == some (.type "type")) = true := by
    rw [h2', d.t] <;> rfl
  show (if ((clsIn K D).isSome && typeIn K (.ref D) == some (.type "type")) = true then subIn K (.ref C) (.ref D) else none) = some b
  rw [if_pos e2]
  exact s
theorem kit_mk (d : DC K D) (r : subIn K (.ref C) (.ref C) = some true) (s : subIn K (.ref C) (.ref D) = some b) : kitOne K (.ref C) (.ref D) = some b ∧ exmOne K (.ref C) (.ref D) = some b := by
  have k := kit_cls' d s
  refine ⟨?_, ?_⟩
  · unfold kitOne
    by_cases z : C = D
    · subst z
      rw [r] at s
      rw [← s]
      rw [if_pos (by simp)]
    · rw [if_neg (by simp [z])]
      exact k
  · unfold exmOne
    rw [if_pos (by rw [d.b] <;> rfl)]
    exact k
theorem kit_val (s : subIn K (.ref C) (.type "ValueError") = some true) : kitOne K (.ref C) (.type "ValueError") = some true := by
  have e : kitOne K (.ref C) (.type "ValueError") = if kitMeta "ValueError" = true then subIn K (.ref C) (.type "ValueError") else none := rfl
  rw [e, if_pos (by decide +kernel)]
  exact s
/-- what an own exception's class says -/
theorem exc_ef (hg : findIn K (.ref C) "__getattribute__" = some (some (.builtin "BaseException.__getattribute__"))) (hk : findIn K (.ref C) "__getattr__" = some none) (hs : subIn K (.ref C) (.type "BaseException") = some true) (hd : hasDictIn K C = true)
    (ha : findIn K (.ref C) "__class__" = some (some (.builtin "object.__class__"))) (hn : specialIn K (.builtin "object.__class__") "__get__" = some (some (.builtin "getset_descriptor.__get__"))) (ht : takesIn K (.builtin "object.__class__") = some true) (hm : mroIn K C (.type "object") = some true) : L2.ExcC K C ∧ L2.XfC K C :=
  ⟨⟨hg, hk, hs, hd, ha, hn, ht, hm⟩, ⟨hg, hk, hs, hd⟩⟩
theorem nm_mk {h : Heap} {mg : Str → Option Value} {x : Str} {st : Stmt} {f : Addr} {oc : Value} {od an : Option Addr} {osl : Array (Option Value)} {kV doc pm cdv ct : Value} (X : K.In h) (G : h.Ns mainGlobals mg) (a : nsIn K mainGlobals x = some (some (.ref f)))
    (l : K.lookup f = some ⟨oc, od, .func (fnOf x x (L2.defArgs st) (L2.defBody st) (L2.defScope st) .none kV doc pm an cdv ct), osl⟩) (c : codeIn K cdv x = true) (k : keepIn K (.ref f) = true) :
    Nm K mg x f ∧ L2.Fun K x x st f (fnOf x x (L2.defArgs st) (L2.defBody st) (L2.defScope st) .none kV doc pm an cdv ct) := ⟨⟨mg_of X G a, k⟩, L2.fun_mk l c k⟩
end
end Lk
namespace LkX
open PySem PySem.W PySem.Calls PyProof.Rows PySem.HandSPX
theorem exc_mk {prog : Program} {K : Frag} {C fI : Addr} {fs : List Str} {st : Stmt} {qual : Str} {nm q : Str} {N : Addr} {bs bm : List Value} {sn : List Str} {sub : List Value} {ab : Bool} {col : Option Bool} {dd : Option Addr} {k0 k1 k2 k3 k5 : Option Value}
    {oc : Value} {od : Option Addr} {doc pm : Value} {an : Option Addr} {cda : Addr} {ct : Value} {cc : Addr} {osl : Array (Option Value)} {ccl : Value} {cdd : Option Addr} {cvs : Array Value} {ccs : Array (Option Value)} {file : Str} {tf : Tok} {cl : Value} {cld : Option Addr} {csl : Array (Option Value)} {ar : Arg}
    (iC : findIn K (.ref C) "__init__" = some (some (.ref fI)))
    (xL : K.lookup C = some (excClassObj nm q C N bs bm true sn sub ab col dd k0 k1 k2 k3 k5 "ValueError.__new__"))
    (l : K.lookup fI = some ⟨oc, od, .func (ksFn "__init__" qual (L2.defArgs st) (L2.defBody st) (L2.defScope st) .none .none doc pm an (.ref cda) ct cc), osl⟩) (c : codeIn K (.ref cda) qual = true)
    (l2 : K.lookup cda = some ⟨ccl, cdd, .fields cvs, ccs⟩) (l3 : K.lookup cc = some ⟨cl, cld, .cell (some (.ref C)), csl⟩)
    (sa : findIn K (.ref C) "__setattr__" = some (some (.builtin "object.__setattr__"))) (tI : typeIn K (.ref fI) = some (.type "function")) (kC : keepIn K (.ref C) = true) (exC : subIn K (.ref C) (.type "BaseException") = some true)
    (tyC : typeIn K (.ref C) = some (.type "type")) (vE : subIn K (.ref C) (.type "ValueError") = some true) (op : nsIn K cStatics "thirdparty.any" = some none) (gs : nsIn K mainGlobals "super" = some none)
    (su : ks_superIn K C C "__init__" = some (some (.builtin "ValueError.__init__"))) (bmv : refsVE bm = true) (noN : ∀ f ∈ fs, findIn K (.ref C) f = some none)
    (v2 : cvs[2]? = some (.str file tf)) (fil : ((prog.main.file : Str) == file) = true) (ib : InitBody fs (L2.defBody st)) (hd : ((L2.defArgs st).posonlyargs ++ (L2.defArgs st).args).head? = some ar) (har : ar.arg = "self")
    (s0 : (prog.main.scope.names.lookup ("super" : Str)).isSome = false) (s1 : (L2.defScope st).names.lookup ("super" : Str) = some .globalImplicit) (s2 : (L2.defScope st).names.lookup ("__class__" : Str) = some .free) (s3 : ∀ x ∈ (L2.defScope st).names, x.2 ≠ .cell)
    (s4 : ∀ f ∈ ("self" : Str) :: fs, (L2.defScope st).names.lookup f = some .local) (s5 : (L2.defScope st).isCoroutine = false) (s6 : (L2.defScope st).isGenerator = false) (s7 : (L2.defScope st).kind = .function)
    (ba : ∀ us : List Value, us.length = (("self" : Str) :: fs).length → bindArgs (ksFn "__init__" qual (L2.defArgs st) (L2.defBody st) (L2.defScope st) .none .none doc pm an (.ref cda) ct cc) ⟨us, []⟩ = pure ((("self" : Str) :: fs).zip us))
    (nd : (("self" : Str) :: fs).Nodup) (nb : ∀ f ∈ ("self" : Str) :: fs, (f == ("__debug__" : Str)) = false) (few : fs.length ≤ 100) : ExcTxt prog K C fI fs where
  cls := ⟨nm, q, N, bs, bm, sn, sub, ab, col, dd, k0, k1, k2, k3, k5, xL, bmv⟩
  sa := sa
  noN := noN
  iC := iC
  tI := tI
  kC := kC
  exC := exC
  tyC := tyC
  vE := vE
  su := su
  op := op
  gs := gs
  fn := ⟨qual, _, _, _, oc, od, doc, pm, an, cda, ct, cc, osl, ccl, cdd, cvs, ccs, file, tf, cl, cld, csl, ar, l, c, l2, v2, fil, l3, ib, hd, har, s0, s1, s2, s3, s4, s5, s6, s7, ba⟩
  nd := nd
  nb := nb
  few := few
end LkX
namespace Lk
open PySem PySem.Spec PyProof.Rows L2

/-! ### static methods -/
/-- C.m is a static method: its record at p, its def at g -/
structure CSta (K : PySem.W.Frag) (C : Addr) (m : Str) (p g : Addr) : Prop where
  at_ : PySem.W.findCls K (.ref C) (.type "type") m = some (.get (.builtin "staticmethod.__get__") (.ref p) .none (.ref C))
  rc : ∃ rest, PySem.W.recIn K p "staticmethod" = some (.ref g :: rest)
  kp : PySem.W.keepIn K (.ref g) = true
theorem CSta.mk' {K : PySem.W.Frag} {C : Addr} {m : Str} {p g : Addr} {rest : List Value} (a : PySem.W.findCls K (.ref C) (.type "type") m = some (.get (.builtin "staticmethod.__get__") (.ref p) .none (.ref C))) (b : PySem.W.recIn K p "staticmethod" = some (.ref g :: rest)) (c : PySem.W.keepIn K (.ref g) = true) : CSta K C m p g := ⟨a, ⟨rest, b⟩, c⟩
section
variable {X : Cx} {pins : List (Addr × Obj)} {σ : St} {H : Hp} {s : Shared} {C p g : Addr} {m : Str} {A : Around} {E : Value → Shared → Prop}
theorem getmethst_ok {pl : Sem Bool} {Q : Value × List Value → Shared → Prop} (I : Inv X pins σ H s) (r : ClX.CRead X.K C (.type "type")) (k : CSta X.K C m p g)
    (h : ∀ s', Inv X pins σ H s' → Q (.ref g, []) s') : wpAny (model X.prog X.w) A (getMethod (.ref C) m pl) Q E s := by
  obtain ⟨rest, hp⟩ := k.rc
  refine PySem.W.method_cls I.kIn r.ga (PySem.W.cls_bind I.kIn r.rd k.at_ ?_)
  refine wpAny_call (PySem.W.sm_get (s := { s with toks := s.toks + 1 }) I.kIn hp (PySem.W.handed_on rfl ?_))
  exact h _ (I.tok _)
end
section
variable {X : Cx} {k : Nat} {f C p0 g : Addr} {ps : List Str} {sp : Sp} {W : WX} {x m : Str} {p pos apos : Pos} {e o : Expr} {es : List Expr} {ta : TE} {t : TA}
/-- how o.m(args) goes -/
def MTree (X : Cx) (pl : Sem Bool) (o : Expr) (m : Str) (args : List Expr) (pos apos : Pos) : Prop :=
  eval (.Call (.Attribute o m apos) args [] pos) X.env = (do let obj ← eval o X.env; standAt apos.atName; let (fn, fst) ← holding [obj] (getMethod obj m pl); callWith pos fn fst (backTo pos (starEach args X.env)) (backToKw pos (keywordEach [] X.env)))
/-- C.m(e, ..), m static -/
theorem pe_static {pl : Sem Bool} (G : FnA X.prog X.w X.K X.mg X.base k g ps sp) (hr : Room k X.A) (r : ClX.CRead X.K C (.type "type")) (c : CSta X.K C m p0 g) (hm : X.mg x = some (.ref C)) (tk : L2N.Takes X W)
    (ha : PA X (e :: es) t) (hg : Gl X x := by rfl) (hdb : (x == ("__debug__" : Str)) = false := by decide) (hst : starEach (e :: es) X.env = (false, eval e X.env) :: starEach es X.env := by rfl) (hpl : (backTo pos (starEach es X.env)).any (·.1) = false := by rfl) (ht : MTree X pl (.Name x p) m (e :: es) pos apos := by rfl) :
    PE X (.Call (.Attribute (.Name x p) m apos) (e :: es) [] pos) (tCallS sp (WE W) t) := by
  obtain ⟨fd, F, b⟩ := G
  refine ⟨fun pins s σ H Q I h => ?_⟩
  refine PySem.W.methodCall_KW (pl := pl) (ld_glob I hg hm ?_ hdb) ht
  refine getmethst_ok I r c fun s2 I2 => ?_
  refine PySem.W.callWith_K (first := []) (h₀ := X.base) I.ok.mod.kin c.kp (thn (ha.run pos pins s2 σ H _ I2 h) fun us s3 ⟨vs, H2, I3, rv, q2⟩ => ⟨I3.kIn, ?_⟩) hst hpl
  exact run_fnS (E := WE W) F hr b (L2N.passAt tk σ) I3 rv q2
/-! ### methods of instances -/
/-- o.m(..) -/
def tMethS (K : PySem.W.Frag) (C : Addr) (m : Str) (sp : Sp) (E : St → XK) (ta : TE) (t : TA) : TE := fun σ H Q => ta σ H fun x H1 => ∃ a dx fs, x = .ref a ∧ H1 a = some (.ins C dx fs) ∧ fs.lookup m = none ∧ t σ H1 fun vs H2 => sp (x :: vs) H2 Q (E σ)
theorem pe_methS {pl : Sem Bool} (G : FnA X.prog X.w X.K X.mg X.base k f ps sp) (hr : Room k X.A) (c : Cls X.K C) (hm : Meth X.K C m f) (tk : L2N.Takes X W) (he : PE X o ta) (ha : PA X (e :: es) t)
    (hst : starEach (e :: es) X.env = (false, eval e X.env) :: starEach es X.env := by rfl) (hpl : (backTo pos (starEach es X.env)).any (·.1) = false := by rfl) (ht : MTree X pl o m (e :: es) pos apos := by rfl) :
    PE X (.Call (.Attribute o m apos) (e :: es) [] pos) (tMethS X.K C m sp (WE W) ta t) := by
  obtain ⟨fd, F, b⟩ := G
  refine ⟨fun pins s σ H Q I h => ?_⟩
  refine PySem.W.methodCall_KW (pl := pl) (thn (he.run pins s σ H _ I h) fun u s1 ⟨x, H1, I1, rx, a, dx, fs, ex, ea, l, q⟩ => ?_) ht
  subst ex
  obtain rfl : u = Value.ref a := rx
  refine getmeth_ok I1 ea c hm l ?_
  refine PySem.W.callWith_K (first := [.ref a]) (h₀ := X.base) I.ok.mod.kin hm.kp (thn (ha.run pos pins s1 σ H1 _ I1 q) fun us s2 ⟨vs, H2, I2, r, q2⟩ => ⟨I2.kIn, ?_⟩) hst hpl
  exact run_fnS (E := WE W) (us := .ref a :: us) (vs := .ref a :: vs) F hr b (L2N.passAt tk σ) I2 (.cons rfl r) q2
theorem pe_methS0 {pl : Sem Bool} (G : FnA X.prog X.w X.K X.mg X.base k f ps sp) (hr : Room k X.A) (c : Cls X.K C) (hm : Meth X.K C m f) (tk : L2N.Takes X W) (he : PE X o ta) (ht : MTree X pl o m [] pos apos := by rfl) :
    PE X (.Call (.Attribute o m apos) [] [] pos) (tMethS X.K C m sp (WE W) ta tNil) := by
  obtain ⟨fd, F, b⟩ := G
  refine ⟨fun pins s σ H Q I h => ?_⟩
  refine PySem.W.methodCall_KW (pl := pl) (thn (he.run pins s σ H _ I h) fun u s1 ⟨x, H1, I1, rx, a, dx, fs, ex, ea, l, q⟩ => ?_) ht
  subst ex
  obtain rfl : u = Value.ref a := rx
  refine getmeth_ok I1 ea c hm l ?_
  exact PySem.W.callWith_K0 (first := [.ref a]) I1.kIn hm.kp (run_fnS (E := WE W) (us := [.ref a]) (vs := [.ref a]) F hr b (L2N.passAt tk σ) I1 (.cons rfl .nil) q)
/-! ### C(e, ..) -/
def tMakeS (C : Addr) (sp : Sp) (E : St → XK) (t : TA) : TE := fun σ H Q => t σ H fun vs H1 => ∀ x dx, H1 x = none → H1 dx = none → dx ≠ x →
  sp (.ref x :: vs) (upd (upd H1 dx (.own x)) x (.ins C dx [])) (fun v H2 => v = .non ∧ Q (.ref x) H2) (E σ)
theorem pe_makeS (G : FnA X.prog X.w X.K X.mg X.base k f ps sp) (M : Mk X.K C f) (hr : Room (k + 1) X.A) (hm : X.mg x = some (.ref C)) (tk : L2N.Takes X W)
    (ha : PA X (e :: es) t) (hg : Gl X x := by rfl) (hdb : (x == ("__debug__" : Str)) = false := by decide) (he : starEach (e :: es) X.env = (false, eval e X.env) :: starEach es X.env := by rfl) (hpl : (backTo pos (starEach es X.env)).any (·.1) = false := by rfl) :
    PE X (.Call (.Name x p) (e :: es) [] pos) (tMakeS C sp (WE W) t) := by
  obtain ⟨fd, F, b⟩ := G
  refine ⟨fun pins s σ H Q I h => ?_⟩
  refine wpAny_Call_Name_kw (ld_glob I hg hm ?_ hdb)
  refine PySem.W.callWith_K (h₀ := X.base) I.ok.mod.kin M.kp (thn (ha.run pos pins s σ H _ I h) fun us s1 ⟨vs, H1, I1, r, q⟩ => ⟨I1.kIn, ?_⟩) he hpl
  have hq := q (s1.heap.objs.size + 1) s1.heap.objs.size (I1.hok.fresh (Nat.le_succ _)) (I1.hok.fresh (Nat.le_refl _)) (Nat.ne_of_lt (Nat.lt_succ_self _))
  have I2 := Inv.made (C := C) I1
  have r2 : Vals (V.ref (s1.heap.objs.size + 1) :: vs) (Value.ref (s1.heap.objs.size + 1) :: us) := .cons rfl r
  have hl : ((Value.ref (s1.heap.objs.size + 1) :: us) ++ []).length = ps.length := by
    rw [List.append_nil, ← r2.length]; exact F.len _ _ _ _ hq
  have hb2 := b _ (Value.ref (s1.heap.objs.size + 1) :: us) I2.kIn hl
  rw [List.append_nil] at hb2
  refine wpAny_call (make_map (f := f) I1.kIn M.makes M.init (beq_iff_eq.mp M.fn) (codeAny_mono (F.run _ X.stack _ _ ⟨Value.ref (s1.heap.objs.size + 1) :: us, []⟩ (Value.ref (s1.heap.objs.size + 1) :: us) _ _ _ (hr.make C us [])
    (I2.env0.make C us []) hb2 r2 hq) fun r s' hq' => ?_))
  cases r with
  | error e => exact L2N.passAt tk σ pins _ _ e s' I2 hq'
  | ok fl =>
    cases fl with
    | ret u =>
      obtain ⟨v, H', I3, rv, ev, q3⟩ := I2.after hq'
      subst ev
      exact ⟨rv, ⟨V.ref (s1.heap.objs.size + 1), H', I3, rfl, q3⟩⟩
    | next => exact False.elim hq'
    | brk => exact False.elim hq'
    | cont => exact False.elim hq'
end
/-! ### the readings, one step -/
section
variable {σ : St} {H : Hp} {Q : VK} {D : Ends} {te tv : TE} {tl : TA} {K : PySem.W.Frag} {C a dx p : Addr} {f m : Str} {fs : List (Str × V)} {v y : V} {sp : Sp} {E : St → XK} {A : Prop}
/-- x.f -/
def aFld (K : PySem.W.Frag) (f : Str) (Q : VK) : VK := fun x H1 => ∃ a C dx fs v, x = .ref a ∧ H1 a = some (.ins C dx fs) ∧ Cls K C ∧ NoAttr K C f ∧ fs.lookup f = some v ∧ Q v H1
theorem s_fld (k : te σ H (aFld K f Q)) : tFld K te f σ H Q := k
theorem w_fld (hp : H a = some (.ins C dx fs)) (c : Cls K C) (n : NoAttr K C f) (l : fs.lookup f = some v) (k : Q v H) : aFld K f Q (.ref a) H := ⟨a, C, dx, fs, v, rfl, hp, c, n, l, k⟩
/-- x.f = y -/
def aSFld (K : PySem.W.Frag) (f : Str) (y : V) (k : Hp → Prop) : VK := fun x H2 => ∃ a C dx fs, x = .ref a ∧ H2 a = some (.ins C dx fs) ∧ Cls K C ∧ NoAttr K C f ∧ fs.length < 1000 ∧ k (upd H2 a (.ins C dx (putF f y fs)))
theorem s_sfld (k : tv σ H fun y H1 => te σ H1 (aSFld K f y fun H3 => D.nx σ H3)) : sFld K te tv f D σ H := k
theorem w_sfld {k : Hp → Prop} {fs' : List (Str × V)} (hp : H a = some (.ins C dx fs)) (c : Cls K C) (n : NoAttr K C f) (l : fs.length < 1000) (e : putF f y fs = fs') (q : k (upd H a (.ins C dx fs'))) : aSFld K f y k (.ref a) H :=
  ⟨a, C, dx, fs, rfl, hp, c, n, l, by rw [e]; exact q⟩
/-- x.m(..): the object -/
def aMeth (C : Addr) (m : Str) (k : V → Hp → Prop) : VK := fun x H1 => ∃ a dx fs, x = .ref a ∧ H1 a = some (.ins C dx fs) ∧ fs.lookup m = none ∧ k x H1
theorem s_methS (k : te σ H (aMeth C m fun x H1 => tl σ H1 fun vs H2 => sp (x :: vs) H2 Q (E σ))) : tMethS K C m sp E te tl σ H Q := k
theorem w_meth {k : V → Hp → Prop} (hp : H a = some (.ins C dx fs)) (l : fs.lookup m = none) (q : k (.ref a) H) : aMeth C m k (.ref a) H := ⟨a, dx, fs, rfl, hp, l, q⟩
theorem s_makeS (k : tl σ H fun vs H1 => ∀ x dx, H1 x = none → H1 dx = none → dx ≠ x → sp (.ref x :: vs) (upd (upd H1 dx (.own x)) x (.ins C dx [])) (fun v H2 => v = .non ∧ Q (.ref x) H2) (E σ)) : tMakeS C sp E tl σ H Q := k
def aCVal (K : PySem.W.Frag) (f : Str) (Q : VK) : VK := fun x H1 => ∃ C mc v u, x = .ref C ∧ ClX.CRead K C mc ∧ ClX.CVal K C mc f v u ∧ Q v H1
theorem s_cval (k : te σ H (aCVal K f Q)) : ClX.tCVal K te f σ H Q := k
theorem w_cval {mc u : Value} (r : ClX.CRead K C mc) (c : ClX.CVal K C mc f v u) (k : Q v H) : aCVal K f Q (.ref C) H := ⟨C, mc, v, u, rfl, r, c, k⟩
end
theorem put_nil {f : Str} {v : V} : putF f v [] = [(f, v)] := rfl
theorem put_hit {f : Str} {v x : V} {r : List (Str × V)} : putF f v ((f, x) :: r) = (f, v) :: r := by
  unfold putF
  rw [if_pos rfl]
theorem put_miss {f g : Str} {v x : V} {r r' : List (Str × V)} (n : g ≠ f) (e : putF f v r = r') : putF f v ((g, x) :: r) = (g, x) :: r' := by
  rw [← e]
  show (if g = f then _ else _) = _
  rw [if_neg n]
end Lk
namespace Lk
open PySem PySem.Spec PyProof.Rows L2

/-! ### a range that is kept, then walked -/
section
variable {X : Cx} {tg : Expr}
def iRngV (te : TE) : TI := fun σ H R => te σ H fun x H1 => ∃ p lo hi, x = .ref p ∧ H1 p = some (.rng lo hi) ∧ (-(2 ^ 62) ≤ lo ∧ lo < 2 ^ 62 ∧ -(2 ^ 62) ≤ hi ∧ hi < 2 ^ 62) ∧ R (Itr lo (hi - lo).toNat) H1
theorem pi_rng {e : Expr} {te : TE} (he : PE X e te) : PI X tg e (iRngV te) := by
  refine ⟨fun pins s σ H R I h => ?_⟩
  refine thn (he.run pins s σ H _ I h) fun v0 s1 ⟨x, H1, I1, r1, q1⟩ => ?_
  obtain ⟨p, lo, hi, ex, hp, ⟨h1, h2, h3, h4⟩, q⟩ := q1
  subst ex
  cases r1
  obtain ⟨t, u, v, ho⟩ : ∃ t u v, s1.heap.get? p = some { cls := .type "range", data := .fields #[.int lo t, .int hi u, .int 1 v] } := I1.hok p _ hp
  refine wpAny_pyIter_range (a := lo) (b := hi) (c := 1) (t := t) (u := u) (v := v) ho (small_one h1 h2 h3 h4) ?_
  refine ⟨s1.heap.objs.size, [s1.heap.objs.size], _, _, H1, rfl, I1.kept (t' := s1.toks) fun b o e => Heap.get?_push_of_some _ e, turn_range _ lo (hi - lo).toNat, ?_, fun b hb => ?_, q⟩
  · have e1 : lo + ((0 : Nat) : Int) * 1 = lo := by simp
    have e2 : (((hi - lo).toNat : Nat) : Int) - ((0 : Nat) : Int) = Builtin.Range.rangeSize lo hi 1 := by rw [rangeSize_one]; split <;> omega
    show IsRangeIter _ _ (lo + ((0 : Nat) : Int) * 1) ((((hi - lo).toNat : Nat) : Int) - ((0 : Nat) : Int)) 1
    rw [e1, e2]
    exact Heap.get?_push_size _ rfl
  · have e : b = s1.heap.objs.size := by simpa using hb
    subst e
    exact I1.fpOk (Nat.le_refl _) (I1.hok.fresh (Nat.le_refl _))
def rRange2 : List V → Hp → VK → Prop := fun vs H Q => ∃ i j, vs = [V.int i, V.int j] ∧ ∀ p, H p = none → Q (.ref p) (upd H p (.rng i j))
theorem b_range2 : CallR X (.type "range") rRange2 := cr_range2
/-! ### texts -/
def rJoin (K : PySem.W.Frag) : V → List V → Hp → VK → Prop := fun x xs H Q => ∃ a p, ∃ ys : List Str, x = .str a ∧ xs = [.ref p] ∧ (SqL K H p (ys.map V.str) ∨ SqT K H p (ys.map V.str)) ∧ (ys.map (·.length)).sum + ys.length * a.length ≤ 16777216 ∧ Q (.str (Txt.join a ys)) H
theorem m_join : MtR X "str.join" (rJoin X.K) := mt_join
def rSplit : V → List V → Hp → VK → Prop := fun x xs H Q => ∃ a b, x = .str a ∧ xs = [.str b] ∧ (b.length == 0) = false ∧ a.length + 2 ≤ sizeLine ∧ rNewStrs (Txt.split a b) H Q
theorem m_split : MtR X "str.split" rSplit := mt_split
def rDigit : V → List V → Hp → VK → Prop := fun x xs H Q => ∃ a, x = .str a ∧ xs = [] ∧ True ∧ Q (.bl (Txt.isdigit a)) H
theorem m_isdigit : MtR X "str.isdigit" rDigit := mt_isdigit
def rAscii : V → List V → Hp → VK → Prop := fun x xs H Q => ∃ a, x = .str a ∧ xs = [] ∧ True ∧ Q (.bl (Txt.isascii a)) H
theorem m_isascii : MtR X "str.isascii" rAscii := mt_isascii
def rIntS : List V → Hp → VK → Prop := fun xs H Q => ∃ a n, xs = [.str a] ∧ PySem.intText? a = some n ∧ a.length ≤ 640 ∧ Q (.int n) H
def rIntA : List V → Hp → VK → Prop := fun xs H Q => rInt1 xs H Q ∨ rIntS xs H Q
theorem b_intA : CallR X (.type "int") rIntA := CallR.or b_int call_int_str
def rStrI : List V → Hp → VK → Prop := fun xs H Q => ∃ i : Int, xs = [.int i] ∧ i.natAbs.log2 < 1920 ∧ Q (.str (Str.ofString (toString i))) H
theorem b_str : CallR X (.type "str") rStrI := call_str_int
end
section
variable {K : PySem.W.Frag} {H : Hp} {Q : VK} {a b : Str} {p : Addr} {ys : List Str} {i j n : Int} {us : List Int} {α : Type} {f : α → V} {vs : List α}
theorem w_join (hp : H p = some (.lst (ys.map V.str))) (hz : (ys.map (·.length)).sum + ys.length * a.length ≤ 16777216) (k : Q (.str (Txt.join a ys)) H) : rJoin K (.str a) [.ref p] H Q := ⟨a, p, ys, rfl, rfl, .inl (SqL.of hp), hz, k⟩
theorem w_split (hb : (b.length == 0) = false) (hz : a.length + 2 ≤ sizeLine) (k : ∀ p, H p = none → Q (.ref p) (upd H p (.lst ((Txt.split a b).map V.str)))) : rSplit (.str a) [.str b] H Q := ⟨a, b, rfl, rfl, hb, hz, k⟩
theorem w_digit (k : Q (.bl (Txt.isdigit a)) H) : rDigit (.str a) [] H Q := ⟨a, rfl, rfl, trivial, k⟩
theorem w_ascii (k : Q (.bl (Txt.isascii a)) H) : rAscii (.str a) [] H Q := ⟨a, rfl, rfl, trivial, k⟩
theorem w_intA (k : Q (.int i) H) : rIntA [.int i] H Q := .inl (w_int k)
theorem w_intB {c : Bool} (k : Q (.int (if c then 1 else 0)) H) : rIntA [.bl c] H Q := .inl (.inr ⟨c, rfl, k⟩)
theorem w_intS (h : PySem.intText? a = some n) (hl : a.length ≤ 640) (k : Q (.int n) H) : rIntA [.str a] H Q := .inr ⟨a, n, rfl, h, hl, k⟩
theorem w_strI (h : i.natAbs.log2 < 1920) (k : Q (.str (Str.ofString (toString i))) H) : rStrI [.int i] H Q := ⟨i, rfl, h, k⟩
theorem w_rngV (k : ∀ p, H p = none → Q (.ref p) (upd H p (.rng i j))) : rRange2 [.int i, .int j] H Q := ⟨i, j, rfl, k⟩
theorem w_ixQ [Inhabited α] (hp : SqL K H p (vs.map f)) (h0 : 0 ≤ i) (hl : i.toNat < vs.length) (k : Q (f (vs.getD i.toNat default)) H) : rIx K (.ref p) (.int i) H Q :=
  .inl ⟨p, _, _, _, rfl, rfl, hp, atI_pos h0 (map_getD hl), k⟩
theorem w_lenQ (hp : SqL K H p (vs.map f)) (k : Q (.int vs.length) H) : rLen K [.ref p] H Q := ⟨_, _, rfl, .inl ⟨_, hp, rfl⟩, by rw [List.length_map]; exact k⟩
end
section
variable {σ : St} {H : Hp} {Q : VK} {D : Ends} {g : TG} {tt : TT} {te tl : TE} {tb : TS} {K : PySem.W.Frag} {vs : List Nat} {α β : Type} {f : α → V} {f' : β → V}
def aCRngV (g : TG) (tt : TT) (te : TE) (vs : List Nat) (σ : St) (Q : VK) (x : V) (H1 : Hp) : Prop := ∃ p lo hi, x = .ref p ∧ H1 p = some (.rng lo hi) ∧ (-(2 ^ 62) ≤ lo ∧ lo < 2 ^ 62 ∧ -(2 ^ 62) ≤ hi ∧ hi < 2 ^ 62) ∧ aComp (Itr lo (hi - lo).toNat) g tt te vs σ Q H1
theorem s_lcV (k : tl σ H fun x H1 => aCRngV g tt te vs σ Q x H1) : tLc (iRngV tl) g tt te vs σ H Q := k
theorem w_lcV (ψ : Nat → Option β) {p : Addr} {lo n : Int} (hp : H p = some (.rng lo n)) (hl1 : -(2 ^ 62) ≤ lo) (hl2 : lo < 2 ^ 62) (hn1 : -(2 ^ 62) ≤ n) (hn2 : n < 2 ^ 62) (hz : (n - lo).toNat < sizeLine)
    (hs : ∀ (D : Addr) (i : Nat) (acc : List V) (H' : Hp), H D = none → lo + (i : Int) < n → Kp [] H H' → H' D = some (.lst acc) → acc.length < sizeLine → g (.int (lo + (i : Int))) (wipe σ vs) H' fun σ2 H2 => wipe σ2 vs = wipe σ vs ∧ tt σ2 H2 fun b H3 =>
      if b = true then te σ2 H3 (aKeep H D (acc ++ (ψ i).toList.map f')) else cNx H D (acc ++ (ψ i).toList.map f') H3)
    (k : ∀ D H', H D = none → Kp [] H H' → H' D = some (.lst (((List.range (n - lo).toNat).filterMap ψ).map f')) → Q (.ref D) H') : aCRngV g tt te vs σ Q (.ref p) H :=
  ⟨p, lo, n, rfl, hp, ⟨hl1, hl2, hn1, hn2⟩, w_lcR ψ hl1 hl2 hn1 hn2 hz hs k⟩
theorem w_lcE (ψ : Nat → α → Option β) {us : List α} {p : Addr} {j j' : Nat} (hp : H p = some (.lst (us.map f))) (hz : us.length < sizeLine)
    (hs : ∀ (D : Addr) (i : Nat) (u : α) (T : Addr) (acc : List V) (H' : Hp), H D = none → us[i]? = some u → Kp [] H H' → H' D = some (.lst acc) → acc.length < sizeLine → H' T = none → T ≠ D →
      wipe (((wipe σ vs).set j (some (.int (i : Int)))).set j' (some (f u))) vs = wipe σ vs ∧ tt (((wipe σ vs).set j (some (.int (i : Int)))).set j' (some (f u))) (upd H' T (.tup [.int (i : Int), f u])) fun b H3 =>
      if b = true then te (((wipe σ vs).set j (some (.int (i : Int)))).set j' (some (f u))) H3 (aKeep H D (acc ++ (ψ i u).toList.map f')) else cNx H D (acc ++ (ψ i u).toList.map f') H3)
    (k : ∀ D H', H D = none → Kp [] H H' → H' D = some (.lst ((us.zipIdx.filterMap fun q => ψ q.2 q.1).map f')) → Q (.ref D) H') : aCEnum K (gTup K 2 (gCons (gName j) (gCons (gName j') gNil))) tt te vs σ Q [.ref p] H := by
  refine ⟨p, _, rfl, SqL.of hp, fun D hD => ?_⟩
  refine ⟨fun i m H' => m = us.length - i ∧ i ≤ us.length ∧ cNx H D (((us.take i).zipIdx.filterMap fun q => ψ q.2 q.1).map f') H', ⟨us.length, by simp, Nat.zero_le _, ⟨Kp.refl.new hD, upd_same⟩⟩, ?_⟩
  rintro i m H' ⟨rfl, hi, q1, q2⟩
  have hpp := q1.at0 hp
  by_cases hlt : i < us.length
  · have hu : us[i]? = some us[i] := List.getElem?_eq_getElem hlt
    refine .inr ⟨⟨us.map f, f us[i], SqL.of hpp, by rw [List.getElem?_map, hu]; rfl⟩, cNx H D (((us.take (i + 1)).zipIdx.filterMap fun q => ψ q.2 q.1).map f'), fun H2 p' => ⟨us.length - (i + 1), by omega, rfl, hlt, p'⟩, fun x H2 y => ?_⟩
    obtain ⟨T, z, e1, e2, e3, y⟩ := y
    subst e1 e3
    have ez := y _ (SqL.of hpp)
    rw [List.getElem?_map, hu] at ez
    cases ez
    have hlen : (((us.take i).zipIdx.filterMap fun q => ψ q.2 q.1).map f').length < sizeLine := by
      have := List.length_filterMap_le (fun q : α × Nat => ψ q.2 q.1) (us.take i).zipIdx
      rw [List.length_zipIdx, List.length_take] at this
      rw [List.length_map]
      omega
    have hT : T ≠ D := Ne.symm (ne_of_none q2 e2)
    have e : us.take (i + 1) = us.take i ++ [us[i]] := by
      rw [List.take_succ, hu]; rfl
    have e2' : ((us.take (i + 1)).zipIdx.filterMap fun q => ψ q.2 q.1).map f' = ((us.take i).zipIdx.filterMap fun q => ψ q.2 q.1).map f' ++ (ψ i us[i]).toList.map f' := by
      rw [e, List.zipIdx_append, List.filterMap_append, List.map_append]
      have hl : (us.take i).length = i := by rw [List.length_take]; omega
      rw [hl]
      cases q : ψ i us[i] <;> simp [q]
    rw [e2']
    exact ⟨T, _, rfl, .inl (.inl upd_same), rfl, _, _, rfl, _, _, rfl, rfl, hs D i _ T _ H' hD hu q1 q2 hlen e2 hT⟩
  · have e : i = us.length := by omega
    subst e
    rw [List.take_length] at q2
    exact .inl ⟨⟨_, SqL.of hpp, by simp⟩, k D H' hD q1 q2⟩
end
/-! ### list(range(a, b)) -/
def rgI (a b : Int) : List Int := (List.range (b - a).toNat).map fun i : Nat => a + (i : Int)
theorem rgV_int (a b : Int) : rgV a b = (rgI a b).map V.int := by
  unfold rgV rgI
  rw [List.map_map]; rfl
theorem rgI_len (a b : Int) : (rgI a b).length = (b - a).toNat := by
  unfold rgI
  rw [List.length_map, List.length_range]
theorem rgI_get {a b : Int} {i : Nat} (h : i < (b - a).toNat) : (rgI a b)[i]? = some (a + (i : Int)) := by
  unfold rgI
  rw [List.getElem?_map, List.getElem?_range h]; rfl
def aRgL : R2 := fun x y H Q => ∃ i j, x = .int i ∧ y = .int j ∧ RgOk i j ∧ ∀ q, H q = none → Q (.ref q) (upd H q (.lst (rgV i j)))
section
variable {σ : St} {H : Hp} {Q : VK} {ta tb : TE} {i j : Int} {p q : Addr} {us : List Int}
theorem s_listRg (k : ta σ H fun x H1 => tb σ H1 fun y H2 => aRgL x y H2 Q) : tLstRg (tRg2 ta tb) σ H Q := by
  refine ?_
  unfold tLstRg tRg2
  have e : ∀ (x y : V) (H2 : Hp), aRgL x y H2 Q = ∃ i j, x = .int i ∧ y = .int j ∧ RgOk i j ∧ ∀ q, H2 q = none → Q (.ref q) (upd H2 q (.lst (rgV i j))) := fun _ _ _ => rfl
  exact k
theorem w_rgL (h : RgOk i j) (k : ∀ q, H q = none → Q (.ref q) (upd H q (.lst ((rgI i j).map V.int)))) : aRgL (.int i) (.int j) H Q := ⟨i, j, rfl, rfl, h, fun q hq => by rw [rgV_int]; exact k q hq⟩
theorem w_addL1 (hp : H p = some (.lst [.int i])) (hq : H q = some (.lst (us.map V.int))) (hl : 1 + us.length ≤ sizeLine) (k : ∀ r, H r = none → Q (.ref r) (upd H r (.lst ((i :: us).map V.int)))) : aAdd (.ref p) (.ref q) H Q :=
  w_addLM (us := [i]) (vs := us) (f := V.int) hp hq hl k
theorem w_addR1 (hp : H p = some (.lst (us.map V.int))) (hq : H q = some (.lst [.int i])) (hl : us.length + 1 ≤ sizeLine) (k : ∀ r, H r = none → Q (.ref r) (upd H r (.lst ((us ++ [i]).map V.int)))) : aAdd (.ref p) (.ref q) H Q :=
  w_addLM (us := us) (vs := [i]) (f := V.int) hp hq hl k
end
theorem log2_small {i : Int} (h : -1000000000000 ≤ i ∧ i ≤ 1000000000000) : i.natAbs.log2 < 1920 := by
  have h1 : i.natAbs < 2 ^ 40 := by omega
  by_cases z : i.natAbs = 0
  · rw [z]; decide
  · have := (Nat.log2_lt z).mpr h1
    omega
end Lk
namespace Lk
open PySem PySem.Spec PyProof.Rows L2 TL

/-! ### words that are numbers -/
def strI (i : Int) : Str := Str.ofString (toString i)
def isNumW (z : Str) : Bool := (Txt.isascii z && Txt.isdigit z) && (decide (z = "0") || (!decide ((⟨#[z.cps.toList.getD 0 default]⟩ : Str) = "0") && decide ((z.length : Int) ≤ 9)))
def numV (z : Str) : Int := (intText? z).getD 0
theorem ascii_digit : ∀ c < 128, Unicode.isDigit c = true → 48 ≤ c ∧ c ≤ 57 := by decide +kernel
theorem digit_ascii : ∀ c < 58, 48 ≤ c → Unicode.isDigit c = true := by decide +kernel
theorem num_digits {z : Str} (h1 : Txt.isascii z = true) (h2 : Txt.isdigit z = true) : NumText.AllDigits (tl z) ∧ tl z ≠ [] := by
  unfold Txt.isascii at h1
  unfold Txt.isdigit at h2
  rw [Bool.and_eq_true] at h2
  obtain ⟨h2, h3⟩ := h2
  refine ⟨fun c hc => ?_, fun e => ?_⟩
  · have m : c ∈ z.cps := Array.mem_toList_iff.mp hc
    have a := (Array.all_eq_true_iff_forall_mem.mp h1) c m
    have b := (Array.all_eq_true_iff_forall_mem.mp h3) c m
    exact ascii_digit c (by simpa using a) b
  · have : z.length = 0 := by rw [len_tl, e]; rfl
    rw [this] at h2
    simp at h2
theorem isNumW_parts {z : Str} (h : isNumW z = true) : Txt.isascii z = true ∧ Txt.isdigit z = true ∧ z.length ≤ 9 := by
  unfold isNumW at h
  rw [Bool.and_eq_true, Bool.and_eq_true] at h
  obtain ⟨⟨h1, h2⟩, h3⟩ := h
  refine ⟨h1, h2, ?_⟩
  rw [Bool.or_eq_true] at h3
  rcases h3 with h3 | h3
  · have : z = "0" := by simpa using h3
    rw [this]; decide
  · rw [Bool.and_eq_true] at h3
    have := h3.2
    simp at this
    omega
theorem num_text {z : Str} (h : isNumW z = true) : intText? z = some (numV z) ∧ 0 ≤ numV z ∧ z.length ≤ 640 := by
  obtain ⟨h1, h2, h3⟩ := isNumW_parts h
  obtain ⟨d, ne⟩ := num_digits h1 h2
  have e := PySem.intText_digits (x := z) d ne (by omega)
  unfold numV
  rw [e]
  refine ⟨rfl, ?_, by omega⟩
  show 0 ≤ ((NumText.digitsVal z.cps.toList : Nat) : Int)
  omega
/-! ### splits are not long -/
theorem spl_len (S : List Nat) : ∀ (l : List Nat) (k : Nat) (acc : List Nat), (spl S k acc l).length ≤ l.length + 1
  | [], k, acc => by rw [spl_nil]; simp
  | c :: r, 0, acc => by
    have h1 := spl_len S r (S.length - 1) []
    have h2 := spl_len S r 0 (acc ++ [c])
    cases h : pre S (c :: r) with
    | true => rw [spl_hit h]; simp; omega
    | false => rw [spl_miss h]; simp; omega
  | c :: r, k + 1, acc => by
    have h1 := spl_len S r k acc
    show (spl S k acc r).length ≤ _
    simp; omega
theorem spl_part_len (S : List Nat) : ∀ (l : List Nat) (k : Nat) (acc : List Nat), ∀ p ∈ spl S k acc l, p.length ≤ acc.length + l.length
  | [], k, acc => by rw [spl_nil]; simp
  | c :: r, 0, acc => by
    intro p hp
    cases h : pre S (c :: r) with
    | true =>
      rw [spl_hit h] at hp
      rcases List.mem_cons.mp hp with z | z
      · rw [z]; simp
      · have := spl_part_len S r (S.length - 1) [] p z
        simp at this ⊢; omega
    | false =>
      rw [spl_miss h] at hp
      have := spl_part_len S r 0 (acc ++ [c]) p hp
      simp at this ⊢; omega
  | c :: r, k + 1, acc => by
    intro p hp
    have := spl_part_len S r k acc p hp
    simp at this ⊢; omega
theorem spl_ne (S : List Nat) : ∀ (l : List Nat) (k : Nat) (acc : List Nat), spl S k acc l ≠ []
  | [], k, acc => by rw [spl_nil]; simp
  | c :: r, 0, acc => by
    cases h : pre S (c :: r) with
    | true => rw [spl_hit h]; simp
    | false => rw [spl_miss h]; exact spl_ne S r 0 _
  | c :: r, k + 1, acc => spl_ne S r k acc
section
variable {z y : Str}
theorem split_len (hy : tl y ≠ []) (hk : y.cps.all (· < 256) = true) : (Txt.split z y).length ≤ z.length + 1 := by
  have e := split_spl z y hy (kind_ok hk)
  have := spl_len (tl y) (tl z) 0 []
  rw [← e, List.length_map] at this
  rw [len_tl]; exact this
theorem split_part_len (hy : tl y ≠ []) (hk : y.cps.all (· < 256) = true) : ∀ p ∈ Txt.split z y, p.length ≤ z.length := by
  intro p hp
  have e := split_spl z y hy (kind_ok hk)
  have := spl_part_len (tl y) (tl z) 0 [] (tl p) (by rw [← e]; exact List.mem_map_of_mem hp)
  rw [len_tl, len_tl]
  simpa using this
theorem split_ne (hy : tl y ≠ []) (hk : y.cps.all (· < 256) = true) : Txt.split z y ≠ [] := by
  intro h
  have e := split_spl z y hy (kind_ok hk)
  rw [h] at e
  exact spl_ne _ _ _ _ e.symm
end
theorem tl_sp : tl " " = [32] := by decide +kernel
theorem tl_bar : tl " | " = [32, 124, 32] := by decide +kernel
theorem k_sp : (" " : Str).cps.all (· < 256) = true := by decide +kernel
theorem k_bar : (" | " : Str).cps.all (· < 256) = true := by decide +kernel
/-- the numbers of a part, if it is one -/
def numsOf (z : Str) : Option (List Int) := if (Txt.split z " ").all isNumW = true then some ((Txt.split z " ").map numV) else none
theorem numsOf_len {z : Str} {us : List Int} (h : numsOf z = some us) : 1 ≤ us.length ∧ us.length ≤ z.length + 1 ∧ ∀ u ∈ us, 0 ≤ u := by
  unfold numsOf at h
  split at h
  · rename_i q
    cases h
    rw [List.length_map]
    refine ⟨?_, split_len (by rw [tl_sp]; simp) k_sp, fun u hu => ?_⟩
    · have := split_ne (z := z) (y := " ") (by rw [tl_sp]; simp) k_sp
      cases e : Txt.split z " " with
      | nil => exact absurd e this
      | cons a l => simp
    · obtain ⟨w, hw, rfl⟩ := List.mem_map.mp hu
      exact (num_text (List.all_eq_true.mp q w hw)).2.1
  · cases h
/-! ### texts of numbers -/
theorem tl_strI {i : Int} (h : 0 ≤ i) : tl (strI i) = numL i.toNat := by
  have e := tl_num i.toNat
  rw [show ((i.toNat : Nat) : Int) = i by omega] at e
  exact e
theorem strI_len {i : Int} (h : 0 ≤ i) (h2 : i < 1000000000) : (strI i).length ≤ 9 := by
  rw [len_tl, tl_strI h]
  exact numL_len (by decide) (by omega)
theorem numL_head : ∀ (m n : Nat), n ≤ m → 0 < n → ∃ c r, numL n = c :: r ∧ c ≠ 48 := by
  intro m
  induction m with
  | zero => intro n h1 h2; omega
  | succ m ih =>
    intro n h1 h2
    by_cases h : n < 10
    · exact ⟨48 + n, [], numL_lt h, by omega⟩
    · obtain ⟨c, r, e, hc⟩ := ih (n / 10) (by omega) (by omega)
      exact ⟨c, r ++ [48 + n % 10], by rw [numL_step (by omega), e]; rfl, hc⟩
theorem isNum_strI {i : Int} (h : 0 ≤ i) (h2 : i < 1000000000) : isNumW (strI i) = true := by
  have et := tl_strI h
  have hl := strI_len h h2
  have hd := numL_digits i.toNat
  unfold isNumW
  rw [Bool.and_eq_true, Bool.and_eq_true]
  have hmem : ∀ c ∈ (strI i).cps, 48 ≤ c ∧ c ≤ 57 := fun c hc => hd c (by rw [← et]; exact Array.mem_toList_iff.mpr hc)
  have hne : 0 < (strI i).length := by
    rw [len_tl, et]
    exact List.length_pos_iff.mpr (numL_ne _)
  refine ⟨⟨?_, ?_⟩, ?_⟩
  · unfold Txt.isascii
    rw [Array.all_eq_true_iff_forall_mem]
    intro c hc
    have := hmem c hc
    simp; omega
  · unfold Txt.isdigit
    rw [Bool.and_eq_true]
    refine ⟨by simpa using hne, ?_⟩
    rw [Array.all_eq_true_iff_forall_mem]
    intro c hc
    have := hmem c hc
    exact digit_ascii c (by omega) this.1
  · rw [Bool.or_eq_true]
    by_cases z : i = 0
    · left
      subst z
      decide +kernel
    · right
      rw [Bool.and_eq_true]
      obtain ⟨c, r, e, hc⟩ := numL_head i.toNat i.toNat (Nat.le_refl _) (by omega)
      refine ⟨?_, by simp; omega⟩
      have e2 : (strI i).cps.toList = c :: r := by
        show tl (strI i) = _
        rw [et, e]
      rw [e2]
      simp only [List.getD_cons_zero]
      rw [Bool.not_eq_true', decide_eq_false_iff_not]
      intro q
      have q2 := congrArg tl q
      have q3 : tl ("0" : Str) = [48] := by decide +kernel
      rw [q3] at q2
      have q4 : tl (⟨#[c]⟩ : Str) = [c] := rfl
      rw [q4] at q2
      injection q2 with q5
      exact hc q5
theorem numV_strI {i : Int} (h : 0 ≤ i) (h2 : i < 1000000000) : numV (strI i) = i := by
  have e := int_num (n := i.toNat) (Nat.le_trans (numL_len (k := 9) (by decide) (by omega)) (by decide))
  rw [show ((i.toNat : Nat) : Int) = i by omega] at e
  unfold numV strI
  rw [e]; rfl
theorem no_sign {i : Int} {s : Nat} (h : 0 ≤ i) (hs : s < 48 ∨ 57 < s) : s ∉ tl (strI i) := by
  rw [tl_strI h]
  exact numL_free hs
theorem split_nums {us : List Int} (hne : us ≠ []) (h : ∀ u ∈ us, 0 ≤ u) : Txt.split (Txt.join " " (us.map strI)) " " = us.map strI := by
  refine split_join (s := 32) (S := []) tl_sp k_sp (by simpa using hne) fun p hp => ?_
  obtain ⟨u, hu, rfl⟩ := List.mem_map.mp hp
  exact no_sign (h u hu) (by omega)
theorem numsOf_join {us : List Int} (hne : us ≠ []) (h : ∀ u ∈ us, 0 ≤ u ∧ u < 1000000000) : numsOf (Txt.join " " (us.map strI)) = some us := by
  unfold numsOf
  rw [split_nums hne (fun u hu => (h u hu).1)]
  have q : (us.map strI).all isNumW = true := by
    rw [List.all_eq_true]
    intro w hw
    obtain ⟨u, hu, rfl⟩ := List.mem_map.mp hw
    exact isNum_strI (h u hu).1 (h u hu).2
  rw [if_pos q, List.map_map]
  congr 1
  conv => rhs; rw [← List.map_id us]
  apply List.map_congr_left
  intro u hu
  exact numV_strI (h u hu).1 (h u hu).2
/-- a bar is in no text of numbers -/
theorem joinL_free {s : Nat} {S : List Nat} (hS : s ∉ S) : ∀ {ps : List (List Nat)}, (∀ p ∈ ps, s ∉ p) → s ∉ joinL S ps
  | [], _ => List.not_mem_nil
  | [p], h => h p (List.mem_singleton.mpr rfl)
  | p :: q :: r, h => by
    show s ∉ p ++ (S ++ joinL S (q :: r))
    intro z
    rcases List.mem_append.mp z with z | z
    · exact h p List.mem_cons_self z
    · rcases List.mem_append.mp z with z | z
      · exact hS z
      · exact joinL_free hS (fun x hx => h x (List.mem_cons_of_mem _ hx)) z
theorem no_bar {us : List Int} (h : ∀ u ∈ us, 0 ≤ u) : 124 ∉ tl (Txt.join " " (us.map strI)) := by
  rw [join_eq, tl_join, tl_sp]
  refine joinL_free (by decide) fun p hp => ?_
  obtain ⟨w, hw, rfl⟩ := List.mem_map.mp hp
  obtain ⟨u, hu, rfl⟩ := List.mem_map.mp hw
  exact no_sign (h u hu) (by omega)
theorem pre_bar {p q : List Nat} (h : 124 ∉ p) (hq : ∀ c, q[0]? = some c → c ≠ 124) : ∀ i, i < p.length → pre [32, 124, 32] ((p ++ q).drop i) = false := by
  intro i hi
  cases e : pre [32, 124, 32] ((p ++ q).drop i) with
  | false => rfl
  | true =>
    exfalso
    unfold pre at e
    have e2 : ((p ++ q).drop i).take 3 = [32, 124, 32] := by simpa using e
    have e3 : ((p ++ q).drop i)[1]? = some 124 := by
      have : (((p ++ q).drop i).take 3)[1]? = some 124 := by rw [e2]; rfl
      rw [List.getElem?_take_of_lt (by omega)] at this
      exact this
    rw [List.getElem?_drop] at e3
    by_cases z : i + 1 < p.length
    · rw [List.getElem?_append_left z] at e3
      exact h (List.mem_of_getElem? e3)
    · rw [List.getElem?_append_right (by omega), show i + 1 - p.length = 0 by omega] at e3
      exact hq 124 e3 rfl
theorem spl_bar {p rest acc : List Nat} (h : 124 ∉ p) : spl [32, 124, 32] 0 acc (p ++ ([32, 124, 32] ++ rest)) = (acc ++ p) :: spl [32, 124, 32] 0 [] rest :=
  spl_part (by simp) (pre_bar h (fun c e => by simp at e; omega))
theorem spl_bar_last {p acc : List Nat} (h : 124 ∉ p) : spl [32, 124, 32] 0 acc p = [acc ++ p] := spl_last fun i hi => by
  have := pre_bar (q := []) h (fun c e => by simp at e) i hi
  rwa [List.append_nil] at this
theorem split_three {a b c : Str} (ha : 124 ∉ tl a) (hb : 124 ∉ tl b) (hc : 124 ∉ tl c) : Txt.split (a ++ " | " ++ b ++ " | " ++ c) " | " = [a, b, c] := by
  refine map_tl_inj ?_
  rw [split_spl _ _ (by rw [tl_bar]; simp) (kind_ok k_bar), tl_append, tl_append, tl_append, tl_append, tl_bar]
  rw [List.append_assoc, List.append_assoc, List.append_assoc, spl_bar ha, spl_bar hb, spl_bar_last hc]
  rfl
theorem join_three (a b c : Str) : Txt.join " | " [a, b, c] = a ++ " | " ++ b ++ " | " ++ c := by
  refine ext_tl ?_
  rw [join_eq, tl_join, tl_append, tl_append, tl_append, tl_append]
  show tl a ++ (tl " | " ++ (tl b ++ (tl " | " ++ tl c))) = _
  simp only [List.append_assoc]
theorem sum_len {ys : List Str} {c : Nat} (h : ∀ y ∈ ys, y.length ≤ c) : (ys.map (·.length)).sum ≤ ys.length * c := by
  induction ys with
  | nil => simp
  | cons y ys ih =>
    have h1 := h y List.mem_cons_self
    have h2 := ih (fun z hz => h z (List.mem_cons_of_mem _ hz))
    rw [List.map_cons, List.sum_cons, List.length_cons, Nat.succ_mul]
    omega
theorem joinL_len (S : List Nat) : ∀ ps : List (List Nat), (joinL S ps).length ≤ (ps.map (·.length)).sum + ps.length * S.length
  | [] => by simp [joinL]
  | [p] => by simp [joinL]
  | p :: q :: r => by
    have := joinL_len S (q :: r)
    show (p ++ (S ++ joinL S (q :: r))).length ≤ _
    simp only [List.length_append, List.map_cons, List.sum_cons, List.length_cons] at this ⊢
    rw [Nat.succ_mul]
    omega
theorem join_len {ys : List Str} {c : Nat} (h : ∀ y ∈ ys, y.length ≤ c) : (Txt.join " " ys).length ≤ ys.length * (c + 1) := by
  rw [len_tl, join_eq, tl_join, tl_sp]
  have h1 := joinL_len [32] (ys.map tl)
  have h2 := sum_len h
  have e : ((ys.map tl).map (·.length)) = ys.map (·.length) := by
    rw [List.map_map]
    apply List.map_congr_left
    intro y _
    show (tl y).length = y.length
    rw [len_tl]
  rw [e, List.length_map] at h1
  rw [Nat.mul_add]
  simp at h1 ⊢
  omega
theorem nums_len {us : List Int} (h : ∀ u ∈ us, 0 ≤ u ∧ u < 1000000000) : (Txt.join " " (us.map strI)).length ≤ us.length * 10 ∧ ((us.map strI).map (·.length)).sum ≤ us.length * 9 := by
  have q : ∀ y ∈ us.map strI, y.length ≤ 9 := by
    intro y hy
    obtain ⟨u, hu, rfl⟩ := List.mem_map.mp hy
    exact strI_len (h u hu).1 (h u hu).2
  have h1 := join_len q
  have h2 := sum_len q
  rw [List.length_map] at h1 h2
  exact ⟨h1, h2⟩
theorem len_app (a b : Str) : (a ++ b).length = a.length + b.length := by
  rw [len_tl, tl_append, List.length_append, ← len_tl, ← len_tl]
/-! ### lists of tuples -/
/-- xs holds, one by one, tuples of the rows vss -/
inductive Tps (H : Hp) : List V → List (List V) → Prop
  | nil : Tps H [] []
  | cons {r xs vs vss} : H r = some (.tup vs) → Tps H xs vss → Tps H (.ref r :: xs) (vs :: vss)
theorem Tps.kp {H H' : Hp} {xs : List V} {ps : List (List V)} (h : Tps H xs ps) (k : ∀ a o, (∃ vs, o = HO.tup vs) → H a = some o → H' a = some o) : Tps H' xs ps := by
  induction h with
  | nil => exact .nil
  | cons h1 _ ih => exact .cons (k _ _ ⟨_, rfl⟩ h1) ih
theorem Tps.len {H : Hp} {xs : List V} {ps : List (List V)} (h : Tps H xs ps) : xs.length = ps.length := by
  induction h with
  | nil => rfl
  | cons _ _ ih => simp [ih]
theorem Tps.snoc {H : Hp} {xs : List V} {ps : List (List V)} {r : Addr} {vs : List V} (h : Tps H xs ps) (e : H r = some (.tup vs)) : Tps H (xs ++ [.ref r]) (ps ++ [vs]) := by
  induction h with
  | nil => exact .cons e .nil
  | cons h1 _ ih => exact .cons h1 ih
theorem Tps.get {H : Hp} {xs : List V} {ps : List (List V)} (h : Tps H xs ps) : ∀ {k : Nat} {p : List V}, ps[k]? = some p → ∃ r, xs[k]? = some (.ref r) ∧ H r = some (.tup p) := by
  induction h with
  | nil => intro k p e; simp at e
  | cons h1 _ ih =>
    intro k p e
    cases k with
    | zero => simp at e; subst e; exact ⟨_, rfl, h1⟩
    | succ k => simpa using ih (by simpa using e)
theorem Tps.getX {H : Hp} {xs : List V} {ps : List (List V)} (h : Tps H xs ps) {k : Nat} {x : V} (e : xs[k]? = some x) : ∃ r p, x = .ref r ∧ ps[k]? = some p ∧ H r = some (.tup p) := by
  have hl : k < ps.length := by rw [← h.len]; exact (List.getElem?_eq_some_iff.mp e).1
  obtain ⟨r, h1, h2⟩ := h.get (List.getElem?_eq_getElem hl)
  rw [e] at h1
  cases h1
  exact ⟨r, _, rfl, List.getElem?_eq_getElem hl, h2⟩
theorem Tps.new {H : Hp} {xs : List V} {ps : List (List V)} {p : Addr} {o : HO} (h : Tps H xs ps) (hp : H p = none) : Tps (upd H p o) xs ps := h.kp fun a u _ e => by rw [upd_ne (ne_of_none e hp)]; exact e
/-- a list is changed -/
theorem Tps.mut {H : Hp} {xs ys : List V} {ps : List (List V)} {p : Addr} {o : HO} (h : Tps H xs ps) (hp : H p = some (.lst ys)) : Tps (upd H p o) xs ps := h.kp fun a u z e => by
  obtain ⟨vs, rfl⟩ := z
  rw [upd_ne (ne_of e hp (by intro q; cases q))]; exact e
theorem Tps.kp0 {H H' : Hp} {xs : List V} {ps : List (List V)} (h : Tps H xs ps) (k : Kp [] H H') : Tps H' xs ps := h.kp fun a o _ e => k a o e List.not_mem_nil
/-- lists, at most, are changed -/
theorem Tps.kpm {ms : List Addr} {H H' : Hp} {xs : List V} {ps : List (List V)} (h : Tps H xs ps) (k : Kp ms H H') (hm : ∀ m ∈ ms, ∃ ys, H m = some (.lst ys)) : Tps H' xs ps := h.kp fun a o z e => k a o e fun hz => by
  obtain ⟨vs, rfl⟩ := z
  obtain ⟨ys, e2⟩ := hm a hz
  rw [e] at e2; cases e2
/-! ### equal tuples -/
/-- flat rows as data -/
def datV : V → PyData
  | .int i => .int i
  | .str x => .str x
  | .bl b => .bool b
  | _ => .none
def flatRow (vs : List V) : Bool := vs.all fun v => match v with
  | .int _ => true
  | .str _ => true
  | .bl _ => true
  | .non => true
  | _ => false
theorem dpRow {K : PySem.W.Frag} {H : Hp} : ∀ {vs : List V}, flatRow vs = true → DpAll K H vs (vs.map datV)
  | [], _ => .nil
  | v :: vs, h => by
    unfold flatRow at h
    rw [List.all_cons, Bool.and_eq_true] at h
    refine .cons ?_ (dpRow h.2)
    cases v with
    | int i => exact .int i
    | str x => exact .str x
    | bl b => exact .bl b
    | non => exact .non
    | byt b => exact absurd h.1 Bool.false_ne_true
    | flt b => exact absurd h.1 Bool.false_ne_true
    | ref a => exact absurd h.1 Bool.false_ne_true
    | ty n => exact absurd h.1 Bool.false_ne_true
theorem eqRow : ∀ vs : List V, PyData.eqvAll (vs.map datV) (vs.map datV) = true
  | [] => rfl
  | v :: vs => by
    rw [List.map_cons, PyData.eqvAll, eqRow vs, Bool.and_true]
    cases v <;> simp [datV, PyData.eqv]
theorem sh_row {ds : List PyData} (h : ds.all (fun d => d.canLay0 && decide (d.depth ≤ 1)) = true) : SeqAt.shaped (.tuple ds) = true := by
  have a : ∀ ds : List PyData, ds.all (fun d => d.canLay0 && decide (d.depth ≤ 1)) = true → PyData.canLayAll0 ds = true ∧ PyData.depthAll ds ≤ 1 := by
    intro ds
    induction ds with
    | nil => intro _; exact ⟨by simp [PyData.canLayAll0], by simp [PyData.depthAll]⟩
    | cons d ds ih =>
      intro h
      simp only [List.all_cons, Bool.and_eq_true, decide_eq_true_eq] at h
      have := ih (by simpa using h.2)
      refine ⟨by simp [PyData.canLayAll0, h.1.1, this.1], by simp [PyData.depthAll]; omega⟩
  have := a ds h
  unfold SeqAt.shaped
  simp [PyData.canLay0, PyData.depth, this.1]
  omega
def okV : V → Bool
  | .int _ => true
  | .str x => PyData.strOk x
  | .bl _ => true
  | .non => true
  | _ => false
theorem shaped_row {vs : List V} (h : vs.all okV = true) : SeqAt.shaped (.tuple (vs.map datV)) = true := by
  refine sh_row ?_
  rw [List.all_map]
  rw [List.all_eq_true] at h ⊢
  intro v hv
  have := h v hv
  cases v <;> simp_all [okV, datV, PyData.canLay0, PyData.depth]
theorem flat_row {vs : List V} (h : vs.all okV = true) : flatRow vs = true := by
  unfold flatRow
  rw [List.all_eq_true] at h ⊢
  intro v hv
  have := h v hv
  cases v <;> simp_all [okV]
section
variable {K : PySem.W.Frag} {H : Hp} {Q : VK} {p q : Addr} {vs : List V}
theorem w_neT (hp : H p = some (.tup vs)) (hq : H q = some (.tup vs)) (hf : flatRow vs = true) (hs : SeqAt.shaped (.tuple (vs.map datV)) = true) (k : Q (.bl false) H) : aNe K (.ref p) (.ref q) H Q :=
  .inr ⟨_, _, .tup (.inl (.inl hp)) (dpRow hf), .tup (.inl (.inl hq)) (dpRow hf), hs, hs, by rw [PyData.eqv, eqRow]; exact k⟩
theorem w_eqT (hp : H p = some (.tup vs)) (hq : H q = some (.tup vs)) (hf : flatRow vs = true) (hs : SeqAt.shaped (.tuple (vs.map datV)) = true) (k : Q (.bl true) H) : aEq K (.ref p) (.ref q) H Q :=
  .inr ⟨_, _, .tup (.inl (.inl hp)) (dpRow hf), .tup (.inl (.inl hq)) (dpRow hf), hs, hs, by rw [PyData.eqv, eqRow]; exact k⟩
end
/-! ### from the end -/
theorem atI_neg {α : Type} {xs : List α} {i : Int} {v : α} (hi : i < 0) (hl : -i ≤ (xs.length : Int)) (h : xs[((xs.length : Int) + i).toNat]? = some v) : atI xs i = some v := by
  unfold atI ixN
  rw [if_neg (by omega), if_pos (by omega), show i + (xs.length : Int) = (xs.length : Int) + i by omega]
  exact h
theorem w_ixNeg {α : Type} [Inhabited α] {f : α → V} {us : List α} {K : PySem.W.Frag} {H : Hp} {Q : VK} {p : Addr} {i : Int} (hp : H p = some (.lst (us.map f))) (hi : i < 0) (hl : -i ≤ (us.length : Int)) (k : Q (f (us.getD ((us.length : Int) + i).toNat default)) H) : rIx K (.ref p) (.int i) H Q :=
  .inl ⟨p, _, _, _, rfl, rfl, SqL.of hp, atI_neg hi (by simpa using hl) (by
    rw [List.length_map, List.getElem?_map, List.getD_eq_getElem?_getD, List.getElem?_eq_getElem (by omega)]; rfl), k⟩
/-! ### members: texts, truth values -/
section
variable {p : Addr} {H : Hp} {Q : VK} {K : PySem.W.Frag}
theorem eqV_str (a b : Str) : eqV (.str a) (.str b) = decide (a = b) := by
  have : eqV (.str a) (.str b) = (a == b) := rfl
  rw [this]
  by_cases z : a = b <;> simp [z]
theorem eqV_bl (a b : Bool) : eqV (.bl a) (.bl b) = decide (a = b) := by cases a <;> cases b <;> rfl
theorem inV_str {x : Str} : ∀ us : List Str, inV (.str x) (us.map V.str) = decide (x ∈ us)
  | [] => by simp [inV]
  | u :: us => by
    have h := inV_str (x := x) us
    unfold inV at h ⊢
    rw [List.map_cons, List.any_cons, h, eqV_str]
    by_cases z : u = x
    · simp [z]
    · have z2 : ¬ x = u := fun q => z q.symm
      simp [z, z2]
theorem inV_bl {x : Bool} : ∀ us : List Bool, inV (.bl x) (us.map V.bl) = decide (x ∈ us)
  | [] => by simp [inV]
  | u :: us => by
    have h := inV_bl (x := x) us
    unfold inV at h ⊢
    rw [List.map_cons, List.any_cons, h, eqV_bl]
    by_cases z : u = x
    · simp [z]
    · have z2 : ¬ x = u := fun q => z q.symm
      simp [z, z2]
theorem flat_str : ∀ us : List Str, (us.map V.str).all flatV = true
  | [] => rfl
  | u :: us => by rw [List.map_cons, List.all_cons, flat_str us]; rfl
theorem flat_bl : ∀ us : List Bool, (us.map V.bl).all flatV = true
  | [] => rfl
  | u :: us => by rw [List.map_cons, List.all_cons, flat_bl us]; rfl
theorem w_inS {x : Str} {us : List Str} (hp : H p = some (.lst (us.map V.str))) (k : Q (.bl (decide (x ∈ us))) H) : rIn K false (.str x) (.ref p) H Q :=
  ⟨p, _, rfl, .inl (SqL.of hp), rfl, flat_str us, by rw [inV_str]; exact k⟩
theorem w_notInS {x : Str} {us : List Str} (hp : H p = some (.lst (us.map V.str))) (k : Q (.bl (!decide (x ∈ us))) H) : rIn K true (.str x) (.ref p) H Q :=
  ⟨p, _, rfl, .inl (SqL.of hp), rfl, flat_str us, by rw [inV_str]; exact k⟩
theorem w_inB {x : Bool} {us : List Bool} (hp : H p = some (.lst (us.map V.bl))) (k : Q (.bl (decide (x ∈ us))) H) : rIn K false (.bl x) (.ref p) H Q :=
  ⟨p, _, rfl, .inl (SqL.of hp), rfl, flat_bl us, by rw [inV_bl]; exact k⟩
theorem w_notInB {x : Bool} {us : List Bool} (hp : H p = some (.lst (us.map V.bl))) (k : Q (.bl (!decide (x ∈ us))) H) : rIn K true (.bl x) (.ref p) H Q :=
  ⟨p, _, rfl, .inl (SqL.of hp), rfl, flat_bl us, by rw [inV_bl]; exact k⟩
end
end Lk
namespace Lk
open PySem PySem.Spec PyProof.Rows L2 TL

/-! ### is, of truth values -/
theorem vbl_beq (a b : Bool) : ((Value.bool a) == (Value.bool b)) = decide (a = b) := by
  by_cases e : a = b
  · subst e
    exact (beq_self_eq_true (Value.bool a)).trans (decide_eq_true (p := a = a) rfl).symm
  · exact (beq_eq_false_iff_ne.mpr fun z => e (Value.bool.inj z)).trans (decide_eq_false e).symm
section
variable {X : Cx}
theorem op_isBl : OpR X (compareOp .Is) (fun x y H Q => ∃ a b, x = .bl a ∧ y = .bl b ∧ Q (.bl (decide (a = b))) H) := by
  intro pins s σ H x y v u Q I rx ry h
  obtain ⟨a, b, rfl, rfl, q⟩ := h
  cases (show v = Value.bool a from rx)
  cases (show u = Value.bool b from ry)
  exact wpAny_is_plain rfl (fin_bl I q (vbl_beq a b).symm)
theorem op_notBl : OpR X (compareOp .IsNot) (fun x y H Q => ∃ a b, x = .bl a ∧ y = .bl b ∧ Q (.bl (!decide (a = b))) H) := by
  intro pins s σ H x y v u Q I rx ry h
  obtain ⟨a, b, rfl, rfl, q⟩ := h
  cases (show v = Value.bool a from rx)
  cases (show u = Value.bool b from ry)
  exact wpAny_isNot_plain rfl (fin_bl I q (congrArg not (vbl_beq a b).symm))
end
def aIsB : R2 := fun x y H Q => ∃ a b, x = .bl a ∧ y = .bl b ∧ Q (.bl (decide (a = b))) H
def aNotB : R2 := fun x y H Q => ∃ a b, x = .bl a ∧ y = .bl b ∧ Q (.bl (!decide (a = b))) H
theorem o_isB {X : Cx} : OpR X (compareOp .Is) aIsB := op_isBl
theorem o_notB {X : Cx} : OpR X (compareOp .IsNot) aNotB := op_notBl
theorem w_isB {a b : Bool} {H : Hp} {Q : VK} (k : Q (.bl (decide (a = b))) H) : aIsB (.bl a) (.bl b) H Q := ⟨a, b, rfl, rfl, k⟩
theorem w_notB {a b : Bool} {H : Hp} {Q : VK} (k : Q (.bl (!decide (a = b))) H) : aNotB (.bl a) (.bl b) H Q := ⟨a, b, rfl, rfl, k⟩
/-! ### tuple(list) -/
def rTupOf (K : PySem.W.Frag) : List V → Hp → VK → Prop := fun xs H Q => ∃ p ys, xs = [.ref p] ∧ ((SqL K H p ys ∧ ∀ l, H l = none → Q (.ref l) (upd H l (.tup ys))) ∨ (SqT K H p ys ∧ Q (.ref p) H))
theorem b_tuple {X : Cx} : CallR X (.type "tuple") (rTupOf X.K) := call_tuple_of
theorem w_tupOf {K : PySem.W.Frag} {H : Hp} {p : Addr} {ys : List V} {Q : VK} (hp : H p = some (.lst ys)) (k : ∀ l, H l = none → Q (.ref l) (upd H l (.tup ys))) : rTupOf K [.ref p] H Q := ⟨p, ys, rfl, .inl ⟨SqL.of hp, k⟩⟩
/-! ### isinstance(o, C) of an own class -/
def rIsC (C : Addr) : List V → Hp → VK → Prop := fun xs H Q => ∃ a dx fs, xs = [.ref a, .ref C] ∧ H a = some (.ins C dx fs) ∧ Q (.bl true) H
theorem b_isC {X : Cx} {C : Addr} (c : C8.InsC X.K C) : CallR X (.builtin "isinstance") (rIsC C) := C8.call_isC c
theorem w_isC {C a dx : Addr} {fs : List (Str × V)} {H : Hp} {Q : VK} (hp : H a = some (.ins C dx fs)) (k : Q (.bl true) H) : rIsC C [.ref a, .ref C] H Q := ⟨a, dx, fs, rfl, hp, k⟩
/-! ### values as data -/
section
variable {K : PySem.W.Frag} {H : Hp} {n m : Nat}
def DV (K : PySem.W.Frag) (H : Hp) (n : Nat) (v : V) (d : PyData) : Prop := Dp K H v d ∧ d.canLay0 = true ∧ d.depth ≤ n
def DvAll (K : PySem.W.Frag) (H : Hp) (n : Nat) (vs : List V) (ds : List PyData) : Prop := DpAll K H vs ds ∧ PyData.canLayAll0 ds = true ∧ PyData.depthAll ds ≤ n
theorem DV.int (i : Int) : DV K H n (.int i) (.int i) := ⟨.int i, by simp [PyData.canLay0], by simp [PyData.depth]⟩
theorem DV.bl (b : Bool) : DV K H n (.bl b) (.bool b) := ⟨.bl b, by simp [PyData.canLay0], by simp [PyData.depth]⟩
theorem DV.str {x : Str} (h : PyData.strOk x = true) : DV K H n (.str x) (.str x) := ⟨.str x, by simp [PyData.canLay0, h], by simp [PyData.depth]⟩
theorem DV.non : DV K H n .non .none := ⟨.non, by simp [PyData.canLay0], by simp [PyData.depth]⟩
theorem DvAll.nil : DvAll K H n [] [] := ⟨.nil, by simp [PyData.canLayAll0], by simp [PyData.depthAll]⟩
theorem DvAll.cons {v : V} {vs : List V} {d : PyData} {ds : List PyData} (h1 : DV K H n v d) (h2 : DvAll K H n vs ds) : DvAll K H n (v :: vs) (d :: ds) :=
  ⟨.cons h1.1 h2.1, by simp [PyData.canLayAll0, h1.2.1, h2.2.1], by have := h1.2.2; have := h2.2.2; simp [PyData.depthAll]; omega⟩
theorem DV.tup {p : Addr} {vs : List V} {ds : List PyData} (hp : H p = some (.tup vs)) (h : DvAll K H n vs ds) : DV K H (n + 1) (.ref p) (.tuple ds) :=
  ⟨.tup (.inl (.inl hp)) h.1, by simp [PyData.canLay0, h.2.1], by have := h.2.2; simp [PyData.depth]; omega⟩
theorem DV.lst {p : Addr} {vs : List V} {ds : List PyData} (hp : H p = some (.lst vs)) (h : DvAll K H n vs ds) : DV K H (n + 1) (.ref p) (.list ds) :=
  ⟨.lst (SqL.of hp) h.1, by simp [PyData.canLay0, h.2.1], by have := h.2.2; simp [PyData.depth]; omega⟩
theorem DvAll.row : ∀ {vs : List V}, vs.all okV = true → DvAll K H n vs (vs.map datV)
  | [], _ => .nil
  | v :: vs, h => by
    rw [List.all_cons, Bool.and_eq_true] at h
    refine .cons ?_ (DvAll.row h.2)
    cases v with
    | int i => exact .int i
    | str x => exact .str h.1
    | bl b => exact .bl b
    | non => exact .non
    | byt b => exact absurd h.1 Bool.false_ne_true
    | flt b => exact absurd h.1 Bool.false_ne_true
    | ref a => exact absurd h.1 Bool.false_ne_true
    | ty n => exact absurd h.1 Bool.false_ne_true
theorem DV.shaped {v : V} {d : PyData} (h : DV K H n v d) (hn : n ≤ 64) : SeqAt.shaped d = true := by
  unfold SeqAt.shaped
  rw [h.2.1, Bool.true_and]
  exact decide_eq_true (Nat.le_trans h.2.2 hn)
theorem w_eqV {x y : V} {d e : PyData} {Q : VK} (h1 : DV K H 10 x d) (h2 : DV K H 10 y e) (k : Q (.bl (PyData.eqv d e)) H) : aEq K x y H Q :=
  .inr ⟨d, e, h1.1, h2.1, h1.shaped (by decide), h2.shaped (by decide), k⟩
end
/-! ### a comprehension over a list whose turns make things -/
section
variable {σ : St} {H : Hp} {g : TG} {tt : TT} {te : TE} {K : PySem.W.Frag} {vs : List Nat} {Q : VK} {α : Type} {f : α → V}
theorem w_lcMG {us : List α} {p : Addr} (J : Addr → Nat → List V → Hp → Prop) (hp : H p = some (.lst (us.map f)))
    (h0 : ∀ D, H D = none → J D 0 [] (upd H D (.lst [])))
    (hs : ∀ (D : Addr) (i : Nat) (u : α) (acc : List V) (H' : Hp), H D = none → us[i]? = some u → acc.length ≤ i → Kp [] H H' → H' D = some (.lst acc) → J D i acc H' → g (f u) (wipe σ vs) H' fun σ2 H2 => wipe σ2 vs = wipe σ vs ∧ tt σ2 H2 fun b H3 =>
      if b = true then te σ2 H3 (gKeep [] H D (J D) (i + 1)) else gNx [] H D (J D) (i + 1) H3)
    (k : ∀ D acc H', H D = none → acc.length ≤ us.length → Kp [] H H' → H' D = some (.lst acc) → J D us.length acc H' → Q (.ref D) H') : aCList K g tt te vs σ Q (.ref p) H :=
  ⟨p, rfl, ⟨_, SqL.of hp⟩, fun D hD => lc_list (K := K) (a := p) (xs := us.map f) (fun i => gNx [] H D (J D) i) ⟨[], Nat.zero_le _, Kp.refl.new hD, upd_same, h0 D hD⟩
    (fun i H' hi q => by
      obtain ⟨acc, _, q2, _⟩ := q
      exact SqL.of (q2.at0 hp)) (fun i x H' hx q => by
      rw [List.getElem?_map] at hx
      cases e : us[i]? with
      | none => rw [e] at hx; cases hx
      | some u =>
        rw [e] at hx
        cases hx
        obtain ⟨acc, q1, q2, q3, q4⟩ := q
        exact hs D i u acc H' hD e q1 q2 q3 q4) (fun H' q => by
      obtain ⟨acc, q1, q2, q3, q4⟩ := q
      rw [List.length_map] at q1 q4
      exact k D acc H' hD q1 q2 q3 q4)⟩
end
/-! ### unlike data -/
theorem eqvAll_len : ∀ {ds es : List PyData}, ds.length ≠ es.length → PyData.eqvAll ds es = false
  | [], [], h => absurd rfl h
  | [], e :: es, _ => by simp [PyData.eqvAll]
  | d :: ds, [], _ => by simp [PyData.eqvAll]
  | d :: ds, e :: es, h => by
    have := eqvAll_len (ds := ds) (es := es) (by simpa using h)
    simp [PyData.eqvAll, this]
theorem strI_ok {i : Int} (h : -1 ≤ i) : PyData.strOk (strI i) = true := by
  by_cases z : i = -1
  · subst z; decide +kernel
  · have hd := numL_digits i.toNat
    unfold PyData.strOk
    rw [Array.all_eq_true_iff_forall_mem]
    intro c hc
    have := hd c (by rw [← tl_strI (show 0 ≤ i by omega)]; exact Array.mem_toList_iff.mpr hc)
    simp; omega
/-! ### sums, all -/
section
variable {K : PySem.W.Frag} {H : Hp} {Q : VK} {p : Addr}
theorem w_sum {ns : List Int} (hp : H p = some (.lst (ns.map V.int))) (k : Q (.int ns.sum) H) : rSum K [.ref p] H Q := ⟨p, ns, rfl, SqL.of hp, k⟩
theorem w_all {bs : List Bool} (hp : H p = some (.lst (bs.map V.bl))) (k : Q (.bl (bs.all id)) H) : rAll K [.ref p] H Q := ⟨p, bs, rfl, SqL.of hp, k⟩
end
theorem w_inIT {i : Int} {us : List Int} {p : Addr} {H : Hp} {Q : VK} {K : PySem.W.Frag} (hp : H p = some (.tup (us.map V.int))) (k : Q (.bl (decide (i ∈ us))) H) : rIn K false (.int i) (.ref p) H Q :=
  ⟨p, _, rfl, .inr (.inl (.inl hp)), rfl, flat_int us, by rw [inV_int]; exact k⟩
end Lk
namespace Lk
open PySem PySem.Spec PyProof.Rows L2

/-! ### methods and comprehensions while an exception is handled -/
section
variable {X : Cx} {k : Nat} {f C : Addr} {ps : List Str} {sp : Sp} {m : Str} {pos apos : Pos} {e o : Expr} {es : List Expr} {ta : TE} {t : TA}
theorem pe_methHS {pl : Sem Bool} (G : FnHA X.prog X.w X.K X.mg X.base k f ps sp) (hr : L2H.RoomH k X.A) (hc : L2H.HotC X) (c : Cls X.K C) (hm : Meth X.K C m f) (he : PE X o ta) (ha : PA X (e :: es) t)
    (hst : starEach (e :: es) X.env = (false, eval e X.env) :: starEach es X.env := by rfl) (hpl : (backTo pos (starEach es X.env)).any (·.1) = false := by rfl) (ht : MTree X pl o m (e :: es) pos apos := by rfl) :
    PE X (.Call (.Attribute o m apos) (e :: es) [] pos) (tMethS X.K C m sp (fun _ => E0) ta t) := by
  obtain ⟨fd, F, b⟩ := G
  exact L2H.pe_methH (pl := pl) he c hm F hr hc b (fun σ => L2N.passAt takes0 σ) ha hst hpl ht
theorem pe_methHS0 {pl : Sem Bool} (G : FnHA X.prog X.w X.K X.mg X.base k f ps sp) (hr : L2H.RoomH k X.A) (hc : L2H.HotC X) (c : Cls X.K C) (hm : Meth X.K C m f) (he : PE X o ta) (ht : MTree X pl o m [] pos apos := by rfl) :
    PE X (.Call (.Attribute o m apos) [] [] pos) (tMethS X.K C m sp (fun _ => E0) ta tNil) := by
  obtain ⟨fd, F, b⟩ := G
  refine ⟨fun pins s σ H Q I h => ?_⟩
  refine PySem.W.methodCall_KW (pl := pl) (thn (he.run pins s σ H _ I h) fun u s1 ⟨x, H1, I1, rx, a, dx, fs, ex, ea, l, q⟩ => ?_) ht
  subst ex
  obtain rfl : u = Value.ref a := rx
  refine getmeth_ok I1 ea c hm l ?_
  exact PySem.W.callWith_K0 (first := [.ref a]) I1.kIn hm.kp (L2H.run_fnH (E := fun _ => E0) (us := [.ref a]) (vs := [.ref a]) F hr hc b (L2N.passAt takes0 σ) I1 (.cons rfl .nil) q)
end
/-- a list's iterator comes to its end, the handled exception standing aside -/
theorem list_stop {prog : Program} {w : World} {A : Around} {E : Value → Shared → Prop} {s : Shared} {it l x1 : Addr} {i : Nat} {items : Array Value} {Q : Option Value → Shared → Prop} (hot : HotX.HotAt A x1 s.heap) (hne : x1 ≠ it) (hit : s.heap.IsListIter it l i) (hl : s.heap.IsList l items) (hx : items[i]? = none)
    (hQ : ∀ h', (∀ b o, b ≠ it → s.heap.get? b = some o → h'.get? b = some o) → Q none { s with heap := h' }) : wpAny (model prog w) A (pyNext (.ref it)) Q E s := by
  obtain ⟨oi, hoi, hci, hdi⟩ := id hit
  obtain ⟨ol, hol, _, nl, hdl⟩ := hl
  obtain ⟨hh, o1, vs1, h1, d1, c1⟩ := hot
  unfold pyNext
  refine wpAny_bind (wpAny_attempt (wpAny_callSpecial?_slot (name := Str.ofString "__next__") hit.typeIs slot_listiter_next
    (wpAny_call_entry slot_listiter_next hit.typeIs entry_listiter_next ?_ (args_listiter_next _))))
  show wpAny _ _ (field (.ref it) 0 >>= _) _ _ s
  refine wpAny_bind (wpAny_field hoi hdi (x := .ref l) rfl ?_)
  show wpAny _ _ (if (Value.ref l == Value.none) = true then _ else _) _ _ s
  rw [if_neg (show ¬ ((Value.ref l == Value.none) = true) from Bool.false_ne_true)]
  show wpAny _ _ (field (.ref it) 1 >>= _) _ _ s
  refine wpAny_bind (wpAny_field hoi hdi (x := .int i 0) rfl ?_)
  show wpAny _ _ (seqItems? (.ref l) >>= _) _ _ s
  refine wpAny_bind (wpAny_seqItems hol hdl ?_)
  simp only [Int.toNat_natCast, hx]
  refine wpAny_bind (wpAny_rule (wpAny_bind (wpAny_setField hoi hdi (by simp) ?_)))
  show wpAny _ _ (newExc (.type "StopIteration") [] >>= _) _ _ _
  refine wpAny_bind ?_
  simp only [newExc, newTuple]
  refine wpAny_bind (wpAny_newObj_type ?_ (by size_fits))
  refine wpAny_bind (m := firstArgMember _ _) (wpAny_of_eq (a := Value.none) (by first | rfl | (simp only [firstArgMember]; rfl)) ?_)
  refine wpAny_newObj_type ?_ (by size_fits)
  have q1 := (Heap.get?_update_other s.heap (Obj.mapFields (·.setIfInBounds 0 .none)) (Ne.symm hne)).trans h1
  refine HotX.raiseNew_hot ⟨hh, o1, vs1, Heap.get?_push_of_some _ (Heap.get?_push_of_some _ q1), d1, c1⟩ (Nat.ne_of_lt (Heap.lt_size (Heap.get?_push_of_some _ q1))) (Heap.get?_push_size _ rfl) rfl (by first | (simp; done) | (simp; omega) | (simp only [Array.size_append]; simp; omega)) ?_
  refine wpAny_bind (wpAny_isInstance (T := "StopIteration") (b := true) ⟨_, Heap.get?_update_self _ (Heap.get?_push_size _ rfl) rfl, rfl⟩ isSubtype_stop ?_)
  refine wpAny_pure (hQ _ fun b u hb e => ?_)
  have q2 := (Heap.get?_update_other s.heap (Obj.mapFields (·.setIfInBounds 0 .none)) (Ne.symm hb)).trans e
  rw [Heap.get?_update_other _ _ (Nat.ne_of_gt (Heap.lt_size (Heap.get?_push_of_some _ q2)))]
  exact Heap.get?_push_of_some _ (Heap.get?_push_of_some _ q2)
open L2H in
theorem turn_listH {P : Program} {w : World} {K : PySem.W.Frag} {tg : Expr} (a it : Addr) : TurnH P w K tg (Itl K a) [it] it (fun i h => h.IsListIter it a i) := by
  have T : Turn P w K tg (Itl K a) [it] it (fun i h => h.IsListIter it a i) := turn_list a it
  refine ⟨T.mem, T.obj, T.keep, ?_, ?_, T.self⟩
  · intro X hP hw hK hc i pins s σ H E I hf st hg
    subst hP hw hK
    obtain ⟨xs, x, hq, hx⟩ := hg
    obtain ⟨its, rv, p, hz⟩ := I.list hq
    obtain ⟨u, hu, ru⟩ := rv.get hx
    obtain ⟨f0, f1, f2, f3, f4, f5⟩ := hf it (by simp)
    refine wpAny_pyNext_list_item st p.isList (x := u) (by simpa using hu) fun h' st' sb => ⟨u, rfl, ?_⟩
    have I1 := I.turned (t' := s.toks) (fun b o hb e => (sb.2 b hb).trans e) f0 f1 f3 f4 f5
    obtain ⟨oi, e, c, d⟩ := id st'
    exact go_of (s := { s with heap := h' }) e c d (by decide) ⟨x, H, I1, ru, ⟨rfl, fun ys hy => by rw [I.list_inj hy hq]; exact hx⟩, st', fun b hb => (hf b hb).1⟩
  · intro X hP hw hK hc i pins s σ H E I hf st hg
    subst hP hw hK
    obtain ⟨xs, hq, hx⟩ := hg
    obtain ⟨its, rv, p, hz⟩ := I.list hq
    have hl := rv.length
    obtain ⟨f0, f1, f2, f3, f4, f5⟩ := hf it (by simp)
    obtain ⟨x1, ⟨hh, v1, e1, c1⟩, hp⟩ := hc
    have hp := List.mem_append_left pins hp
    exact list_stop ⟨hh, x1.2, v1, (I.pin x1 hp).1, e1, c1⟩ (f5 x1 hp) st p.isList (by simp; omega) fun h' eb => ⟨rfl, I.turned (t' := s.toks) eb f0 f1 f3 f4 f5⟩
section
variable {X : Cx} {tg : Expr}
theorem pi_listH {l : Expr} {tl : TE} (hl : PE X l tl) : L2H.PIH X tg l (iList X.K tl) := by
  refine ⟨fun pins s σ H R I h => thn (hl.run pins s σ H _ I h) fun v s1 ⟨x, H1, I1, r1, a, e, ⟨xs, hq⟩, q⟩ => ?_⟩
  subst e
  cases r1
  obtain ⟨its, rv, p, hz⟩ := I1.list hq
  refine wpAny_pyIter_list p.isList ⟨s1.heap.objs.size, [s1.heap.objs.size], _, _, H1, rfl, I1.kept (t' := s1.toks) fun b o e => Heap.get?_push_of_some _ e, turn_listH a _, ⟨_, Heap.get?_push_size _ rfl, rfl, rfl⟩, fun b hb => ?_, q⟩
  rw [List.mem_singleton.mp hb]
  exact I1.fpOk (Nat.le_refl _) (I1.hok.fresh (Nat.le_refl _))
theorem pi_range2H {a b : Expr} {ta : TA} {p pos : Pos} (hg : Gl X "range") (hm : X.mg "range" = none) (ha : PA X [a, b] ta) (hs : starEach [a, b] X.env = [(false, eval a X.env), (false, eval b X.env)] := by rfl) (hs2 : starEach [b] X.env = [(false, eval b X.env)] := by rfl) :
    L2H.PIH X tg (.Call (.Name "range" p) [a, b] [] pos) (iRng2 ta) := by
  refine ⟨fun pins s σ H R I h => ?_⟩
  refine Call_ (ld_blt I hg hm boot_range (PyProof.Rows.callWith_type1 (thn (ha.run pos pins s σ H _ I h) fun us s1 ⟨vs, H1, I1, r1, q1⟩ => ?_) (by rw [hs, hs2]) (by rw [hs2]; rfl)))
  obtain ⟨i, j, e, ⟨q1, q2, q3, q4⟩, q⟩ := q1
  subst e
  cases r1 with
  | cons r rr =>
    cases rr with
    | cons r' rr =>
      cases rr
      obtain ⟨t, rfl⟩ := r
      obtain ⟨t', rfl⟩ := r'
      exact call_range_2 (L2H.range_itH I1 q1 q2 q3 q4 q)
end
/-- the block of a comprehension that keeps the pins of the def -/
abbrev blkH (X : Cx) (s : Shared) (H : Hp) (scope : Scope) (cenv : Env) (fp : List Addr) : Cx := { X.blk s H scope cenv fp with pn := X.pn }
abbrev newC (s : Shared) (scope : Scope) (env : Env) : Env := compEnvC scope (cellsFrom (s.heap.objs.size + 1) scope.names (cloFrom env.cells scope.names [])) s.heap.objs.size env
theorem blkH_start {X : Cx} {pins : List (Addr × Obj)} {σ : St} {H : Hp} {s : Shared} {scope : Scope} {own : List (Str × Nat)} {fp : List Addr} (I : Inv X pins σ H s) (ok : BlkOk X.N X.env.scope scope own) (hN : X.N.Nodup) (hfp : ∀ b ∈ fp, FpOk X pins H b ∧ b < s.heap.objs.size) :
    Inv (blkH X s H scope (newC s scope X.env) fp) [] (wipe σ (own.map (·.2))) H { s with heap := pushCells (s.heap.push { cls := .type "dict", data := .dict #[] }) scope.names } := by
  have J := block_start I ok hN hfp
  have O := J.ok
  refine ⟨⟨O.mod, O.kind, O.glob, O.blt, O.above, O.inj, O.has, O.cab, O.hd, O.frames, O.stk, O.exf, O.bs, O.bsz, O.noex, O.exfs, O.funs, O.frf⟩, J.os, J.bare, J.base, J.loc, J.cell, J.free, J.freeC, fun p hp => ?_, J.hok, J.len⟩
  have hp : p ∈ X.pn := by simpa using hp
  obtain ⟨p1, p2, p3, p4, p5⟩ := I.pin p (List.mem_append_left _ hp)
  refine ⟨pushCells_keeps _ _ _ _ (Heap.get?_push_of_some _ p1), p2, Nat.ne_of_lt (Heap.lt_size p1), fun z => ?_, p5⟩
  rcases List.mem_cons.mp (I.stkSub p.1 z) with y | y
  · exact p3 y
  · exact p4 y
/-- the block's context still bears the handled exception -/
theorem hotBlk {X : Cx} {s : Shared} {H : Hp} {scope : Scope} {cenv : Env} {fp : List Addr} (hc : L2H.HotC X) : L2H.HotC (blkH X s H scope cenv fp) := hc
section
variable {X : Cx} {elt tg iter : Expr} {ifs : List Expr} {scope : Scope} {own : List (Str × Nat)} {pos pos' : Pos} {wi : TI} {g : TG} {tt : TT} {te : TE}
/-- the turns of the block's loop -/
theorem lcH_loop {s : Shared} {σ : St} {H : Hp} {Q : VK} {R : Result → Shared → Prop} {fp : List Addr} {it D : Addr} {tn : Nat → Heap → Prop} {J : It} {cenv : Env} {s' : Shared} (hc : L2H.HotC X)
    (T : L2H.TurnH X.prog X.w X.K tg J fp it tn) (I0 : Inv (blkH X s H scope cenv fp) [] (wipe σ (own.map (·.2))) H s') (st0 : tn 0 s'.heap) (free0 : ∀ b ∈ fp, H b = none)
    (pg : PG (blkH X s H scope cenv fp) tg g) (pt : PTs (blkH X s H scope cenv fp) ifs tt) (pe : PE (blkH X s H scope cenv fp) elt te) (far : ∀ b ∈ fp, ∀ p ∈ X.pn, p.1 ≠ b)
    {W : Nat → Nat → Hp → Prop} {m0 : Nat} (w0 : W 0 m0 H)
    (turn : ∀ i m H, W i m H → (J.stop i H ∧ Q (.ref D) H) ∨ (J.go i H ∧ ∃ Nx : Hp → Prop, (∀ H', Nx H' → ∃ m', m' < m ∧ W (i + 1) m' H') ∧ ∀ x H', J.yld i H x H' → g x (wipe σ (own.map (·.2))) H' fun σ2 H2 => wipe σ2 (own.map (·.2)) = wipe σ (own.map (·.2)) ∧ tt σ2 H2 fun b H3 =>
      if b = true then te σ2 H3 fun y H4 => ∃ acc, H4 D = some (.lst acc) ∧ acc.length < sizeLine ∧ Nx (upd H4 D (.lst (acc ++ [y]))) else Nx H3))
    (fin : ∀ H' s1, Inv (blkH X s H scope cenv fp) [] (wipe σ (own.map (·.2))) H' s1 → Q (.ref D) H' → R (.ok .next) s1) :
    codeAny (model X.prog X.w) X.A (.compLoop (.ListComp elt [⟨tg, iter, ifs, 0⟩] scope pos) 0 (.ref it) (.ref D) cenv) R s' := by
  have aside : ∀ {σ1 : St} {H1 : Hp} {s1 : Shared}, Inv (blkH X s H scope cenv fp) [] σ1 H1 s1 → (∀ b ∈ fp, H1 b = none) → ∀ b ∈ fp, FpOk (blkH X s H scope cenv fp) [] H1 b := fun {σ1 H1 s1} I1 h1 b hb =>
    ⟨h1 b hb, (I1.ok.exf b hb).1, I1.ok.exfs b hb, .inl hb, (I1.ok.exf b hb).2, fun p hp => far b hb p (by simpa using hp)⟩
  refine compLoop_any (fun n s1 => ∃ i H1, Inv (blkH X s H scope cenv fp) [] (wipe σ (own.map (·.2))) H1 s1 ∧ tn i s1.heap ∧ (∀ b ∈ fp, H1 b = none) ∧ W i n H1) ?_ m0 ⟨0, H, I0, st0, free0, w0⟩
  rintro n s1 ⟨i, H1, I1, st1, fr1, w1⟩
  rcases turn i n H1 w1 with ⟨stop, qq⟩ | ⟨go, Nx, hNx, step⟩
  · refine thnF (T.done (blkH X s H scope cenv fp) rfl rfl rfl (hotBlk hc) i [] s1 _ H1 (fun _ _ => False) I1 (aside I1 fr1) st1 stop) fun r s2 ⟨hr, I2⟩ => ?_
    subst hr
    exact fin H1 s2 I2 qq
  · refine thnF (T.item (blkH X s H scope cenv fp) rfl rfl rfl (hotBlk hc) i [] s1 _ H1 (fun _ _ => False) I1 (aside I1 fr1) st1 go) fun r s2 ⟨u, hr, h2⟩ => ?_
    subst hr
    refine thnF h2 fun _ s3 ⟨x, H3, I3, r3, y3, st3, fr3⟩ => ?_
    refine thnF (pg.run _ s3 _ H3 x u _ (I3.pinned (aside I3 fr3) (T.obj _ _ st3)) r3 (step x H3 y3)) fun _ s4 ⟨σ4, H4, I4, e4, q4⟩ => ?_
    refine thnF (pt.run _ s4 σ4 H4 _ I4 q4) fun b s5 ⟨H5, I5, q5⟩ => ?_
    have next : ∀ {s6 : Shared} {H6 : Hp}, Inv (blkH X s H scope cenv fp) ([] ++ pinsAt fp s3.heap) σ4 H6 s6 → Nx H6 → ∃ m, m < n ∧ ∃ i H1, Inv (blkH X s H scope cenv fp) [] (wipe σ (own.map (·.2))) H1 s6 ∧ tn i s6.heap ∧ (∀ b ∈ fp, H1 b = none) ∧ W i m H1 := fun {s6 H6} I6 nx => by
      obtain ⟨m', hm, w'⟩ := hNx H6 nx
      have still : ∀ b ∈ fp, ∀ o, s3.heap.get? b = some o → s6.heap.get? b = some o ∧ H6 b = none := fun b hb o e =>
        ⟨(I6.pin (b, o) (List.mem_append_right _ (List.mem_append_right _ (mem_pinsAt hb e)))).1, (I6.pin (b, o) (List.mem_append_right _ (List.mem_append_right _ (mem_pinsAt hb e)))).2.1⟩
      refine ⟨m', hm, i + 1, H6, (I6.unpinned (pins := [])).weak (by rw [← e4, wipe_length]) (fun j v e => ?_), T.keep _ _ _ st3 fun b hb o e => (still b hb o e).1, fun b hb => ?_, w'⟩
      · rw [← e4] at e; exact (wipe_some e).1
      · obtain ⟨o, e, _⟩ := T.obj _ _ st3 b hb
        exact (still b hb o e).2
    cases b with
    | false =>
      simp only [Bool.false_eq_true, if_false] at q5 ⊢
      exact next I5 q5
    | true =>
      simp only [if_true] at q5 ⊢
      refine thnF (pe.run _ s5 σ4 H5 _ I5 q5) fun z s6 ⟨yv, H6, I6, r6, acc, hD, hz, nx⟩ => ?_
      exact app_ok (X := blkH X s H scope cenv fp) I6 hD hz r6 fun s7 I7 => next I7 nx
/-- [..] while an exception is handled -/
theorem lcH_core {pins : List (Addr × Obj)} {s : Shared} {σ : St} {H : Hp} {Q : VK} {use : Option (Value → Sem Unit)} {Qf : Value → Shared → Prop} (hc : L2H.HotC X) (hN : X.N.Nodup) (I : Inv X pins σ H s) (hi : L2H.PIH X tg iter wi) (ok : BlkOk X.N X.env.scope scope own)
    (hg : ∀ (s : Shared) (H : Hp) (C : Addr) (cl : List (Str × Addr)) (fp : List Addr), PG (blkH X s H scope (compEnvC scope cl C X.env) fp) tg g) (ht : ∀ (s : Shared) (H : Hp) (C : Addr) (cl : List (Str × Addr)) (fp : List Addr), PTs (blkH X s H scope (compEnvC scope cl C X.env) fp) ifs tt)
    (he : ∀ (s : Shared) (H : Hp) (C : Addr) (cl : List (Str × Addr)) (fp : List Addr), PE (blkH X s H scope (compEnvC scope cl C X.env) fp) elt te) (hs : ∀ x, foldedSetIterable iter X.env x = pure x)
    (h : tLc wi g tt te (own.map (·.2)) σ H Q)
    (out : ∀ D C s' m H', Inv X pins σ H' s' → Q (.ref D) H' → s'.heap.Ns C m → FpOk X pins H' C → compPost (model X.prog X.w) X.A X.xe use Qf (.ref D) C (.ok .next) s') :
    wpAny (model X.prog X.w) X.A (comprehension (.ListComp elt [⟨tg, iter, ifs, 0⟩] scope pos) scope X.env pos' (newList []) false (eval iter X.env) use) Qf X.xe s := by
  refine wpAny_comprehension_free (use := use) rfl hs (closure_ok fun y hy e => (ok.free y hy e).elim (fun k => I.ok.has _ (.inl k)) fun k => I.ok.has _ (.inr k)) ok.kind (fun y hy e => by rw [ok.uniq y hy, e])
    (thn (hi.run pins s σ H _ I h) fun xv s1 hx => thn hx fun itv s2 ⟨it, fp, tn, J, H2, e, I2, T, st2, f2, q⟩ => ?_)
  subst e
  refine wpAny_newObj_type (newEnv_comp ?_) (by show 0 ≤ sizeLine; decide)
  have hDn : H2 s2.heap.objs.size = none := I2.hok.fresh (Nat.le_refl _)
  obtain ⟨W, ⟨m0, w0⟩, turn⟩ := q _ hDn
  have I3 : Inv X pins σ (upd H2 s2.heap.objs.size (.lst [])) { s2 with heap := s2.heap.push { cls := .type "list", data := .seq ([] : List Value).toArray } } :=
    I2.laid (t' := s2.toks) (fun b o e => Heap.get?_push_of_some _ e) (Nat.le_refl _) ⟨Nat.zero_le _, [], 0, .nil, Heap.get?_push_size _ rfl⟩
  have lt2 : ∀ b ∈ fp, b < s2.heap.objs.size := fun b hb => let ⟨o, e, _⟩ := T.obj _ _ st2 b hb; Heap.lt_size e
  have nfp : ∀ b ∈ fp, (upd H2 s2.heap.objs.size (.lst [])) b = none := fun b hb => by rw [upd_ne (Nat.ne_of_lt (lt2 b hb))]; exact (f2 b hb).1
  have st3 : tn 0 (s2.heap.push { cls := .type "list", data := .seq ([] : List Value).toArray }) := T.keep _ _ _ st2 fun b _ o e => Heap.get?_push_of_some _ e
  have sz3 : (s2.heap.push { cls := .type "list", data := .seq ([] : List Value).toArray }).objs.size = s2.heap.objs.size + 1 := Heap.size_push ..
  have f3 : ∀ b ∈ fp, FpOk X pins (upd H2 s2.heap.objs.size (.lst [])) b ∧ b < (s2.heap.push { cls := .type "list", data := .seq ([] : List Value).toArray }).objs.size := fun b hb =>
    ⟨⟨nfp b hb, (f2 b hb).2⟩, by rw [sz3]; exact Nat.lt_succ_of_lt (lt2 b hb)⟩
  generalize hs3 : ({ s2 with heap := s2.heap.push { cls := .type "list", data := .seq ([] : List Value).toArray } } : Shared) = s3 at I3 ⊢
  have h3 : s2.heap.push { cls := .type "list", data := .seq ([] : List Value).toArray } = s3.heap := by rw [← hs3]
  rw [h3] at st3 f3
  have I4 := blkH_start I3 ok hN f3
  have st4 : tn 0 (pushCells (s3.heap.push { cls := .type "dict", data := .dict #[] }) scope.names) := T.keep _ _ _ st3 fun b _ o e => pushCells_keeps _ _ _ _ (Heap.get?_push_of_some _ e)
  have loop := lcH_loop (R := compPost (model X.prog X.w) X.A X.xe use Qf (.ref s2.heap.objs.size) s3.heap.objs.size) (iter := iter) (pos := pos) hc T I4 st4 nfp (hg _ _ _ _ _) (ht _ _ _ _ _) (he _ _ _ _ _) (fun b hb p hp => (f3 b hb).1.2.2.2.2.2 p (List.mem_append_left _ hp)) w0 turn fun H' s5 I5 q5 => by
    have I7 : Inv X pins σ H' s5 := I3.call' (ch := fp) I5.os I5.base I5.hok I5.bare fun b hb => ⟨(f3 b hb).1.2.2.2.1, (f3 b hb).1.2.1, (f3 b hb).1.2.2.2.2.1, (f3 b hb).1.2.2.2.2.2⟩
    obtain ⟨m, hn, _⟩ := I5.loc
    exact out _ s3.heap.objs.size s5 m H' I7 q5 hn (I3.fpOk (Nat.le_refl _) I5.free)
  exact codeAny_compStart_list loop (T.self X.A 0 _ _ _ st4 loop)
theorem pe_lcH (hc : L2H.HotC X) (hN : X.N.Nodup) (hi : L2H.PIH X tg iter wi) (ok : BlkOk X.N X.env.scope scope own)
    (hg : ∀ (s : Shared) (H : Hp) (C : Addr) (cl : List (Str × Addr)) (fp : List Addr), PG (blkH X s H scope (compEnvC scope cl C X.env) fp) tg g) (ht : ∀ (s : Shared) (H : Hp) (C : Addr) (cl : List (Str × Addr)) (fp : List Addr), PTs (blkH X s H scope (compEnvC scope cl C X.env) fp) ifs tt)
    (he : ∀ (s : Shared) (H : Hp) (C : Addr) (cl : List (Str × Addr)) (fp : List Addr), PE (blkH X s H scope (compEnvC scope cl C X.env) fp) elt te) (hs : ∀ x, foldedSetIterable iter X.env x = pure x := by intro _; rfl) :
    PE X (.ListComp elt [⟨tg, iter, ifs, 0⟩] scope pos) (tLc wi g tt te (own.map (·.2))) := by
  refine ⟨fun pins s σ H Q I h => ?_⟩
  rw [eval_ListComp]
  refine lcH_core hc hN I hi ok hg ht he hs h fun D C s' m H' I' q hn ⟨f0, f1, f2, f3, f4, f5⟩ => ⟨m, hn, fun h2 sb => ?_⟩
  exact ⟨.ref D, H', I'.turned (t' := s'.toks) (fun b o hb e => (sb.2 b hb).trans e) f0 f1 f3 f4 f5, rfl, q⟩
/-- name = [..] on one line, the name a local -/
theorem ps_setLcH {i : Nat} {y : Str} {py spos : Pos} (hc : L2H.HotC X) (hN : X.N.Nodup) (hy : X.N[i]? = some y) (hyl : X.env.scope.names.lookup y = some .local)
    (hsw : swapsWith (.ListComp elt [⟨tg, iter, ifs, 0⟩] scope pos) (some (.Name y py)) spos.line X.env = pure true) (hi : L2H.PIH X tg iter wi) (ok : BlkOk X.N X.env.scope scope own)
    (hg : ∀ (s : Shared) (H : Hp) (C : Addr) (cl : List (Str × Addr)) (fp : List Addr), PG (blkH X s H scope (compEnvC scope cl C X.env) fp) tg g) (ht : ∀ (s : Shared) (H : Hp) (C : Addr) (cl : List (Str × Addr)) (fp : List Addr), PTs (blkH X s H scope (compEnvC scope cl C X.env) fp) ifs tt)
    (he : ∀ (s : Shared) (H : Hp) (C : Addr) (cl : List (Str × Addr)) (fp : List Addr), PE (blkH X s H scope (compEnvC scope cl C X.env) fp) elt te) (hs : ∀ x, foldedSetIterable iter X.env x = pure x := by intro _; rfl) :
    PS X (.Assign [.Name y py] (.ListComp elt [⟨tg, iter, ifs, 0⟩] scope pos) spos) (tAsg (tLc wi g tt te (own.map (·.2))) (gName i)) := by
  refine ⟨fun pins s σ H D I h => ?_⟩
  rw [exec_Assign_Name_used _ _ _ _ hsw]
  refine wpAny_bind (wpAny_standAt (wpAny_bind ?_))
  show wpAny _ X.A (do let _ ← comprehension (.ListComp elt [⟨tg, iter, ifs, 0⟩] scope pos) scope X.env (firstIterPos [⟨tg, iter, ifs, 0⟩] pos) (newList []) false (eval iter X.env) (some (assign (.Name y py) X.env))) _ _ s
  have h : tLc wi g tt te (own.map (·.2)) σ H (fun x H1 => gName i x σ H1 D.nx) := h
  refine wpAny_bind (thn (lcH_core (Qf := fun _ s' => SP X pins D .next s') hc hN I hi ok hg ht he hs h fun L C s' m H' I' q hn ⟨f0, f1, f2, f3, f4, f5⟩ => ?_) fun _ s' hq => wpAny_pure (wpAny_pure hq))
  show wpAny _ _ (assign (.Name y py) X.env (.ref L)) _ _ _
  refine wpAny_assign_Name (store_ok2 (v := V.ref L) I' hN hy (.inl hyl) rfl (fun s2 I2 ⟨a, sb, ha⟩ => ⟨m, hn.sameBut sb ?_, fun h3 sb3 => ⟨_, H', I2.turned (t' := s2.toks) (fun b o hb e => (sb3.2 b hb).trans e) f0 f1 f3 f4 f5, q⟩⟩) (.inr hyl))
  rcases ha with z | z
  · rw [z]; exact f1
  · exact fun e => f4 y a z e.symm
end
end Lk
namespace Lk
open PySem PySem.Spec PyProof.Rows L2

/-! ### dicts -/
theorem hu0 {u : Nat} (h : u + 64 < cLine) : u < cLine := by omega
theorem hu1 {u : Nat} (h : u + 64 < cLine) : u + 1 < cLine := by omega
def aDIn (x y : V) (H : Hp) (Q : VK) : Prop := ∃ a o, y = .ref a ∧ DGet H a x o ∧ Q (.bl o.isSome) H
def aDNin (x y : V) (H : Hp) (Q : VK) : Prop := ∃ a o, y = .ref a ∧ DGet H a x o ∧ Q (.bl (!o.isSome)) H
def aDGet (x y : V) (H : Hp) (Q : VK) : Prop := ∃ a v, x = .ref a ∧ DGet H a y (some v) ∧ Q v H
def aDPut (x y v : V) (H : Hp) (k : Hp → Prop) : Prop := ∃ a H', x = .ref a ∧ DPut H a y v H' ∧ k H'
section
variable {σ : L2.St} {H : Hp} {Q : VK} {D : Ends} {td ty tv : TE}
theorem s_dnew (k : ∀ p, H p = none → Q (.ref p) (upd H p (.dK []))) : tDNewK σ H Q := k
theorem s_dnewT (k : ∀ p, H p = none → Q (.ref p) (upd H p (.dT []))) : tDNewT σ H Q := k
theorem s_din (k : ty σ H fun y H1 => td σ H1 fun x H2 => aDIn y x H2 Q) : tDIn ty td σ H Q := k
theorem s_dnin (k : ty σ H fun y H1 => td σ H1 fun x H2 => aDNin y x H2 Q) : tDNotIn ty td σ H Q := k
theorem s_dget (k : td σ H fun x H1 => ty σ H1 fun y H2 => aDGet x y H2 Q) : tDGet td ty σ H Q := k
theorem s_dput (k : tv σ H fun v H1 => td σ H1 fun x H2 => ty σ H2 fun y H3 => aDPut x y v H3 (D.nx σ)) : sDPut td ty tv D σ H := k
end
/-- a dict whose keys are the numbers us, each with the value v -/
def dkS (v : V) (us : List Int) : List (Key × V) := us.map fun u => (Sum.inl u, v)
def insU (us : List Int) (i : Int) : List Int := if i ∈ us then us else us ++ [i]
theorem dkS_val (v : V) (us : List Int) (i : Int) : valV (dkS v us) (Sum.inl i) = if i ∈ us then some v else none := by
  induction us with
  | nil => rfl
  | cons u us ih =>
    unfold dkS at ih ⊢
    rw [List.map_cons]
    by_cases c : u = i
    · subst c
      rw [valV_pos rfl, if_pos List.mem_cons_self]
    · rw [valV_neg (fun z => c (Sum.inl.inj z)), ih]
      by_cases d : i ∈ us
      · rw [if_pos d, if_pos (List.mem_cons_of_mem _ d)]
      · rw [if_neg d, if_neg (fun z => (List.mem_cons.mp z).elim (fun y => c y.symm) d)]
theorem dkS_put (v : V) (us : List Int) (i : Int) : putK (dkS v us) (Sum.inl i) v = dkS v (insU us i) := by
  unfold insU
  by_cases d : i ∈ us
  · rw [if_pos d]
    unfold putK
    rw [valV_any, dkS_val, if_pos d, if_pos (show (some v).isSome = true from rfl)]
    unfold dkS
    rw [List.map_map]
    apply List.map_congr_left
    intro u hu
    show (if (Sum.inl u : Key) = Sum.inl i then ((Sum.inl u : Key), v) else (Sum.inl u, v)) = _
    split <;> rfl
  · rw [if_neg d, putK_new v (by rw [dkS_val, if_neg d])]
    unfold dkS
    rw [List.map_append]; rfl
section
variable {H : Hp} {Q : VK} {a : Addr} {us : List Int} {i : Int} {v : V}
theorem w_dinI (hp : H a = some (.dK (dkS v us))) (k : Q (.bl (decide (i ∈ us))) H) : aDIn (.int i) (.ref a) H Q :=
  ⟨a, _, rfl, DGet.k (k := Sum.inl i) hp, by
    rw [dkS_val]
    by_cases c : i ∈ us
    · rw [if_pos c]; rw [decide_eq_true c] at k; exact k
    · rw [if_neg c]; rw [decide_eq_false c] at k; exact k⟩
theorem w_dninI (hp : H a = some (.dK (dkS v us))) (k : Q (.bl (!decide (i ∈ us))) H) : aDNin (.int i) (.ref a) H Q :=
  ⟨a, _, rfl, DGet.k (k := Sum.inl i) hp, by
    rw [dkS_val]
    by_cases c : i ∈ us
    · rw [if_pos c]; rw [decide_eq_true c] at k; exact k
    · rw [if_neg c]; rw [decide_eq_false c] at k; exact k⟩
theorem w_dputI {k : Hp → Prop} (hp : H a = some (.dK (dkS v us))) (hl : us.length < sizeLine) (q : k (upd H a (.dK (dkS v (insU us i))))) : aDPut (.ref a) (.int i) v H k :=
  ⟨a, _, rfl, DPut.k (k := Sum.inl i) hp (by unfold dkS; rw [List.length_map]; exact hl), by rw [dkS_put]; exact q⟩
end
theorem insU_len (us : List Int) (i : Int) : (insU us i).length ≤ us.length + 1 := by
  unfold insU
  split
  · omega
  · rw [List.length_append]; simp
theorem insU_mem {us : List Int} {i u : Int} : u ∈ insU us i ↔ u ∈ us ∨ u = i := by
  unfold insU
  by_cases c : i ∈ us
  · rw [if_pos c]
    exact ⟨.inl, fun h => h.elim id fun z => z ▸ c⟩
  · rw [if_neg c, List.mem_append, List.mem_singleton]
/-! ### list.pop(i) -/
section
variable {H : Hp} {Q : VK} {p : Addr}
theorem w_pop0 {us : List Int} {u : Int} {rest : List Int} (hp : H p = some (.lst (us.map V.int))) (e : us = u :: rest) (k : Q (.int u) (upd H p (.lst (rest.map V.int)))) : rPopAt (.ref p) [.int 0] H Q := by
  subst e
  refine ⟨p, _, 0, 0, .int u, rfl, rfl, hp, by omega, by omega, ?_, rfl, ?_⟩
  · simp [seqIndex?]
  · exact k
theorem w_popM {us : List Int} (hp : H p = some (.lst (us.map V.int))) (hl : 0 < us.length) (k : Q (.int (us.getD 0 default)) (upd H p (.lst ((us.drop 1).map V.int)))) : rPopAt (.ref p) [.int 0] H Q := by
  cases us with
  | nil => exact absurd hl (by simp)
  | cons u rest => exact w_pop0 hp rfl k
end
/-- a test that is a truth value of the kit -/
theorem s_tB {t : TE} {σ : L2.St} {H : Hp} {Q : Bool → Hp → Prop} (k : t σ H fun x H1 => aB x H1 Q) : tB t σ H Q := k
/-! ### tuple + tuple -/
theorem mapNe {α β : Type} {f : α → β} {us : List α} (h : us ≠ []) : us.map f ≠ [] := fun z => h (List.map_eq_nil_iff.mp z)
theorem w_catT {K : PySem.W.Frag} {H : Hp} {Q : VK} {a b : Addr} {xs ys : List V} (ha : H a = some (.tup xs)) (hb : H b = some (.tup ys)) (hx : xs ≠ []) (hy : ys ≠ []) (hz : xs.length + ys.length ≤ sizeLine) (k : ∀ p, H p = none → Q (.ref p) (upd H p (.tup (xs ++ ys)))) : rCatT K (.ref a) (.ref b) H Q :=
  ⟨a, b, xs, ys, rfl, rfl, .inl (.inl ha), .inl (.inl hb), hx, hz, fun z => absurd z hy, fun _ p hp => k p hp⟩
/-! ### loops over tuples, also while an exception is handled -/
theorem tup_stop {prog : Program} {w : World} {A : Around} {E : Value → Shared → Prop} {s : Shared} {it t x1 : Addr} {i : Nat} {items : Array Value} {Q : Option Value → Shared → Prop} (hot : HotX.HotAt A x1 s.heap) (hne : x1 ≠ it) (hit : s.heap.IsTupleIter it t i) (ht : s.heap.IsTuple t items) (hx : items[i]? = none)
    (hQ : ∀ h', (∀ b o, b ≠ it → s.heap.get? b = some o → h'.get? b = some o) → Q none { s with heap := h' }) : wpAny (model prog w) A (pyNext (.ref it)) Q E s := by
  obtain ⟨oi, hoi, hci, hdi⟩ := id hit
  obtain ⟨ol, hol, _, nl, hdl⟩ := ht
  obtain ⟨hh, o1, vs1, h1, d1, c1⟩ := hot
  unfold pyNext
  refine wpAny_bind (wpAny_attempt (wpAny_callSpecial?_slot (name := Str.ofString "__next__") hit.typeIs F.slot_tuple_iterator_next
    (wpAny_call_entry F.slot_tuple_iterator_next hit.typeIs F.entry_tuple_iterator_next ?_ (F.args_tuple_iterator_next_1 _))))
  show wpAny _ _ (field (.ref it) 0 >>= _) _ _ s
  refine wpAny_bind (wpAny_field hoi hdi (x := .ref t) rfl ?_)
  show wpAny _ _ (if (Value.ref t == Value.none) = true then _ else _) _ _ s
  rw [if_neg (show ¬ ((Value.ref t == Value.none) = true) from Bool.false_ne_true)]
  show wpAny _ _ (field (.ref it) 1 >>= _) _ _ s
  refine wpAny_bind (wpAny_field hoi hdi (x := .int i 0) rfl ?_)
  show wpAny _ _ (seqItems? (.ref t) >>= _) _ _ s
  refine wpAny_bind (wpAny_seqItems hol hdl ?_)
  simp only [Int.toNat_natCast, hx]
  refine wpAny_bind (wpAny_rule (wpAny_bind (wpAny_setField hoi hdi (by simp) ?_)))
  show wpAny _ _ (newExc (.type "StopIteration") [] >>= _) _ _ _
  refine wpAny_bind ?_
  simp only [newExc, newTuple]
  refine wpAny_bind (wpAny_newObj_type ?_ (by size_fits))
  refine wpAny_bind (m := firstArgMember _ _) (wpAny_of_eq (a := Value.none) (by first | rfl | (simp only [firstArgMember]; rfl)) ?_)
  refine wpAny_newObj_type ?_ (by size_fits)
  have q1 := (Heap.get?_update_other s.heap (Obj.mapFields (·.setIfInBounds 0 .none)) (Ne.symm hne)).trans h1
  refine HotX.raiseNew_hot ⟨hh, o1, vs1, Heap.get?_push_of_some _ (Heap.get?_push_of_some _ q1), d1, c1⟩ (Nat.ne_of_lt (Heap.lt_size (Heap.get?_push_of_some _ q1))) (Heap.get?_push_size _ rfl) rfl (by first | (simp; done) | (simp; omega) | (simp only [Array.size_append]; simp; omega)) ?_
  refine wpAny_bind (wpAny_isInstance (T := "StopIteration") (b := true) ⟨_, Heap.get?_update_self _ (Heap.get?_push_size _ rfl) rfl, rfl⟩ isSubtype_stop ?_)
  refine wpAny_pure (hQ _ fun b u hb e => ?_)
  have q2 := (Heap.get?_update_other s.heap (Obj.mapFields (·.setIfInBounds 0 .none)) (Ne.symm hb)).trans e
  rw [Heap.get?_update_other _ _ (Nat.ne_of_gt (Heap.lt_size (Heap.get?_push_of_some _ q2)))]
  exact Heap.get?_push_of_some _ (Heap.get?_push_of_some _ q2)
theorem turn_tupH {P : Program} {w : World} {K : PySem.W.Frag} {tg : Expr} (a it : Addr) : L2H.TurnH P w K tg (Itt K a) [it] it (fun i h => h.IsTupleIter it a i) := by
  have T : Turn P w K tg (Itt K a) [it] it (fun i h => h.IsTupleIter it a i) := turn_tuple a it
  refine ⟨T.mem, T.obj, T.keep, ?_, ?_, T.self⟩
  · intro X hP hw hK hc i pins s σ H E I hf st hg
    subst hP hw hK
    obtain ⟨xs, x, hq, hx⟩ := hg
    obtain ⟨its, rv, p, hz⟩ := I.tuple hq
    obtain ⟨u, hu, ru⟩ := rv.get hx
    obtain ⟨f0, f1, f2, f3, f4, f5⟩ := hf it (by simp)
    refine wpAny_pyNext_tuple_item st (show s.heap.IsTuple a its.toArray from p) (x := u) (by simpa using hu) fun h' st' sb => ⟨u, rfl, ?_⟩
    have I1 := I.turned (t' := s.toks) (fun b o hb e => (sb.2 b hb).trans e) f0 f1 f3 f4 f5
    obtain ⟨oi, e, c, d⟩ := id st'
    exact go_of (s := { s with heap := h' }) e c d (by decide) ⟨x, H, I1, ru, ⟨rfl, fun ys hy => by rw [I.tuple_inj hy hq]; exact hx⟩, st', fun b hb => (hf b hb).1⟩
  · intro X hP hw hK hc i pins s σ H E I hf st hg
    subst hP hw hK
    obtain ⟨xs, hq, hx⟩ := hg
    obtain ⟨its, rv, p, hz⟩ := I.tuple hq
    have hl := rv.length
    obtain ⟨f0, f1, f2, f3, f4, f5⟩ := hf it (by simp)
    obtain ⟨x1, ⟨hh, v1, e1, c1⟩, hp⟩ := hc
    have hp := List.mem_append_left pins hp
    exact tup_stop ⟨hh, x1.2, v1, (I.pin x1 hp).1, e1, c1⟩ (f5 x1 hp) st (show s.heap.IsTuple a its.toArray from p) (by simp; omega) fun h' eb => ⟨rfl, I.turned (t' := s.toks) eb f0 f1 f3 f4 f5⟩
theorem pi_tupH {X : Cx} {tg l : Expr} {tl : TE} (hl : PE X l tl) : L2H.PIH X tg l (iTup X.K tl) := by
  refine ⟨fun pins s σ H R I h => thn (hl.run pins s σ H _ I h) fun v s1 ⟨x, H1, I1, r1, a, e, ⟨xs, hq⟩, q⟩ => ?_⟩
  subst e
  cases r1
  obtain ⟨its, rv, p, hz⟩ := I1.tuple hq
  refine wpAny_pyIter_tuple (show s1.heap.IsTuple a its.toArray from p) ⟨s1.heap.objs.size, [s1.heap.objs.size], _, _, H1, rfl, I1.kept (t' := s1.toks) fun b o e => Heap.get?_push_of_some _ e, turn_tupH a _, ⟨_, Heap.get?_push_size _ rfl, rfl, rfl⟩, fun b hb => ?_, q⟩
  rw [List.mem_singleton.mp hb]
  exact I1.fpOk (Nat.le_refl _) (I1.hok.fresh (Nat.le_refl _))
section
variable {g : TG} {tb : TS} {D : Ends} {te : TE} {σ : L2.St} {H : Hp} {K : PySem.W.Frag} {nx bk ct : L2.St → Hp → Prop} {rt : VK}
def aFTup (K : PySem.W.Frag) (g : TG) (tb : TS) (D : Ends) (σ : L2.St) (x : V) (H1 : Hp) : Prop := ∃ a, x = .ref a ∧ (∃ xs, SqT K H1 a xs) ∧ aLoop (Itt K a) g tb D σ H1
theorem s_forT (k : te σ H fun x H1 => aFTup K g tb D σ x H1) : tFor (iTup K te) g tb D σ H := k
theorem w_forT {α : Type} {f : α → V} {us : List α} {p : Addr} (hp : H p = some (.tup (us.map f))) (Pv : Nat → L2.St → Hp → Prop) (h0 : Pv 0 σ H) (hl : ∀ i σ' H', i ≤ us.length → Pv i σ' H' → H' p = some (.tup (us.map f)))
    (hs : ∀ (i : Nat) (u : α) σ' H', us[i]? = some u → Pv i σ' H' → g (f u) σ' H' fun σ2 H2 => tb ⟨Pv (i + 1), rt, nx, Pv (i + 1)⟩ σ2 H2) (hd : ∀ σ' H', Pv us.length σ' H' → nx σ' H') : aFTup K g tb ⟨nx, rt, bk, ct⟩ σ (.ref p) H :=
  ⟨p, rfl, ⟨_, .inl (.inl hp)⟩, for_tup (K := K) (a := p) (xs := us.map f) Pv h0 (fun i σ' H' hi q => .inl (.inl (hl i σ' H' (by simpa using hi) q))) (fun i x σ' H' hx q => by
    rw [List.getElem?_map] at hx
    cases e : us[i]? with
    | none => rw [e] at hx; cases hx
    | some u =>
      rw [e] at hx
      cases hx
      exact hs i u σ' H' e q) (fun σ' H' q => hd σ' H' (by simpa using q))⟩
end
/-! ### lists of truth values -/
theorem eqvAll_bool : ∀ (ns ms : List Bool), PyData.eqvAll (ns.map PyData.bool) (ms.map PyData.bool) = decide (ns = ms) := by
  intro ns
  induction ns with
  | nil => intro ms; cases ms <;> simp [PyData.eqvAll]
  | cons n ns ih =>
    intro ms
    cases ms with
    | nil => simp [PyData.eqvAll]
    | cons m ms =>
      rw [List.map_cons, List.map_cons, PyData.eqvAll, ih]
      cases n <;> cases m <;> simp [PyData.eqv]
theorem dpAllB {K : PySem.W.Frag} {H : Hp} : ∀ (ns : List Bool), DpAll K H (ns.map V.bl) (ns.map PyData.bool)
  | [] => .nil
  | n :: ns => .cons (.bl n) (dpAllB ns)
theorem shapedB (ns : List Bool) : SeqAt.shaped (.list (ns.map PyData.bool)) = true := by
  have h1 : ∀ ns : List Bool, PyData.canLayAll0 (ns.map PyData.bool) = true := by
    intro ns
    induction ns with
    | nil => rfl
    | cons n ns ih => rw [List.map_cons, PyData.canLayAll0, ih]; rfl
  have h2 : ∀ ns : List Bool, PyData.depthAll (ns.map PyData.bool) = 0 := by
    intro ns
    induction ns with
    | nil => rfl
    | cons n ns ih => rw [List.map_cons, PyData.depthAll, ih]; rfl
  unfold SeqAt.shaped
  rw [PyData.canLay0, h1, PyData.depth, h2]
  decide
theorem w_eqLB {K : PySem.W.Frag} {H : Hp} {Q : VK} {p q : Addr} {ns ms : List Bool} (hp : H p = some (.lst (ns.map V.bl))) (hq : H q = some (.lst (ms.map V.bl))) (k : Q (.bl (decide (ns = ms))) H) : aEq K (.ref p) (.ref q) H Q :=
  .inr ⟨_, _, .lst (SqL.of hp) (dpAllB ns), .lst (SqL.of hq) (dpAllB ms), shapedB ns, shapedB ms, by rw [PyData.eqv, eqvAll_bool]; exact k⟩
/-! ### leaving a loop -/
theorem s_brk {σ : St} {H : Hp} {nx bk ct : St → Hp → Prop} {rt : VK} (k : bk σ H) : tBreak ⟨nx, rt, bk, ct⟩ σ H := k
theorem s_cont {σ : St} {H : Hp} {nx bk ct : St → Hp → Prop} {rt : VK} (k : ct σ H) : tCont ⟨nx, rt, bk, ct⟩ σ H := k
/-! ### a cut at a test -/
def tCutT (t : TT) : TT := fun σ H Q => ∃ P : Bool → Hp → Prop, t σ H P ∧ ∀ b H1, P b H1 → Q b H1
theorem pt_cutT {X : Cx} {e : Expr} {t : TT} (h : PT X e t) : PT X e (tCutT t) :=
  ⟨fun pins s σ H Q I ⟨P, h1, h2⟩ => thn (h.run pins s σ H P I h1) fun b s1 ⟨H1, I1, q1⟩ => ⟨H1, I1, h2 b H1 q1⟩⟩
theorem s_cutT {t : TT} {σ : St} {H : Hp} {Q : Bool → Hp → Prop} (p : Prop) [Decidable p] (h1 : t σ H fun b H1 => H1 = H ∧ b = decide p) (h2 : Q (decide p) H) : tCutT t σ H Q :=
  ⟨_, h1, fun _ _ ⟨e1, e2⟩ => by rw [e1, e2]; exact h2⟩
theorem s_cutTK {t : TT} {σ : St} {H : Hp} {Q : Bool → Hp → Prop} (p : Prop) [Decidable p] (R : Hp → Prop) (h1 : t σ H fun b H1 => R H1 ∧ b = decide p) (h2 : ∀ H1, R H1 → Q (decide p) H1) : tCutT t σ H Q :=
  ⟨_, h1, fun _ H1 ⟨e1, e2⟩ => by rw [e2]; exact h2 H1 e1⟩
/-! ### pairs in order -/
theorem w_leT2 {K : PySem.W.Frag} {H : Hp} {Q : VK} {p q : Addr} {x y z w : Int} (hp : H p = some (.tup [.int x, .int y])) (hq : H q = some (.tup [.int z, .int w])) (k : Q (.bl (decide (x < z ∨ (x = z ∧ y ≤ w)))) H) : rLeT K (.ref p) (.ref q) H Q := by
  refine ⟨p, q, [x, y], [z, w], rfl, rfl, SqT.of hp, SqT.of hq, ?_⟩
  rw [show Ob.lexAt (fun j => decide (([x, y] : List Int).getD j 0 = ([z, w] : List Int).getD j 0)) (fun j => decide (([x, y] : List Int).getD j 0 ≤ ([z, w] : List Int).getD j 0)) (decide (([x, y] : List Int).length ≤ ([z, w] : List Int).length)) 0 (min ([x, y] : List Int).length ([z, w] : List Int).length) = decide (x < z ∨ (x = z ∧ y ≤ w)) from ?_]
  · exact k
  · show (if decide (x = z) = true then (if decide (y = w) = true then decide (2 ≤ 2) else decide (y ≤ w)) else decide (x ≤ z)) = _
    by_cases c : x = z
    · rw [if_pos (decide_eq_true c)]
      by_cases d : y = w
      · rw [if_pos (decide_eq_true d)]; exact decide_eq_decide.mpr (by omega)
      · rw [if_neg (by simpa using d)]; exact decide_eq_decide.mpr (by omega)
    · rw [if_neg (by simpa using c)]; exact decide_eq_decide.mpr (by omega)
end Lk
namespace Lk
open PySem PySem.Spec PyProof.Rows L2

/-! ### comprehensions over tuples -/
section
variable {σ : L2.St} {H : Hp} {g : TG} {tt : TT} {te tl : TE} {K : PySem.W.Frag} {vs : List Nat} {Q : VK} {β : Type} {f' : β → V}
def aCTup (K : PySem.W.Frag) (g : TG) (tt : TT) (te : TE) (vs : List Nat) (σ : L2.St) (Q : VK) (x : V) (H1 : Hp) : Prop := ∃ a, x = .ref a ∧ (∃ xs, SqT K H1 a xs) ∧ aComp (Itt K a) g tt te vs σ Q H1
theorem s_lcT (k : tl σ H fun x H1 => aCTup K g tt te vs σ Q x H1) : tLc (iTup K tl) g tt te vs σ H Q := k
theorem w_lcT (ψ : V → Option β) {us : List V} {p : Addr} (hp : H p = some (.tup us)) (hz : us.length < sizeLine)
    (hs : ∀ (D : Addr) (i : Nat) (u : V) (acc : List V) (H' : Hp), H D = none → us[i]? = some u → Kp [] H H' → H' D = some (.lst acc) → acc.length < sizeLine → g u (wipe σ vs) H' fun σ2 H2 => wipe σ2 vs = wipe σ vs ∧ tt σ2 H2 fun b H3 =>
      if b = true then te σ2 H3 (aKeep H D (acc ++ (ψ u).toList.map f')) else cNx H D (acc ++ (ψ u).toList.map f') H3)
    (k : ∀ D H', H D = none → Kp [] H H' → H' D = some (.lst ((us.filterMap ψ).map f')) → Q (.ref D) H') : aCTup K g tt te vs σ Q (.ref p) H :=
  ⟨p, rfl, ⟨_, .inl (.inl hp)⟩, fun D hD => lc_tup (K := K) (a := p) (xs := us) (fun i => cNx H D (((us.take i).filterMap ψ).map f')) ⟨Kp.refl.new hD, upd_same⟩
    (fun i H' hi q => .inl (.inl (q.1.at0 hp))) (fun i x H' hx q => by
      have hl : i < us.length := (List.getElem?_eq_some_iff.mp hx).1
      have hlen : (((us.take i).filterMap ψ).map f').length < sizeLine := by
        have := fm_len ψ (us.take i)
        rw [List.length_take] at this
        rw [List.length_map]
        omega
      have h := hs D i x _ H' hD hx q.1 q.2 hlen
      have e2 : ((us.take (i + 1)).filterMap ψ).map f' = ((us.take i).filterMap ψ).map f' ++ (ψ x).toList.map f' := by rw [fm_snoc ψ hx, List.map_append]
      rw [e2]
      exact h) (fun H' q => k D H' hD q.1 (by
        have := q.2
        rw [List.take_length] at this
        exact this))⟩
end
theorem room65 {k : Nat} {A : Around} (r : Room k A) : A.units + 65 < cLine := by have := r.un; omega
/-! ### a list of tuples has it -/
section
variable {K : PySem.W.Frag} {H : Hp}
theorem w_inD {x y : V} {d : PyData} {ds : List PyData} {Q : VK} (h1 : DV K H 10 x d) (h2 : DV K H 10 y (.list ds)) (k : Q (.bl (ds.any fun z => PyData.eqv z d)) H) : rInD K x y H Q :=
  ⟨d, ds, h1.1, h2.1, h1.shaped (by decide), h2.shaped (by decide), k⟩
end
section
variable {K : PySem.W.Frag} {H : Hp}
theorem w_neV {x y : V} {d e : PyData} {Q : VK} (h1 : DV K H 10 x d) (h2 : DV K H 10 y e) (k : Q (.bl (!PyData.eqv d e)) H) : aNe K x y H Q :=
  .inr ⟨d, e, h1.1, h2.1, h1.shaped (by decide), h2.shaped (by decide), k⟩
theorem okV_int (us : List Int) : (us.map V.int).all okV = true := by
  rw [List.all_map, List.all_eq_true]
  intro u _
  rfl
theorem DV.ints {n : Nat} {p : Addr} {us : List Int} (hp : H p = some (.lst (us.map V.int))) : DV K H (n + 1) (.ref p) (.list ((us.map V.int).map datV)) := DV.lst hp (DvAll.row (okV_int us))
theorem DvAll.refs {n : Nat} {ρ : Addr → List Int} : ∀ {qs : List Addr}, (∀ q ∈ qs, H q = some (.lst ((ρ q).map V.int))) → ∃ ds, DvAll K H (n + 1) (qs.map V.ref) ds ∧ ds.length = qs.length
  | [], _ => ⟨[], .nil, rfl⟩
  | q :: qs, h => by
    obtain ⟨ds, h1, h2⟩ := DvAll.refs (n := n) (qs := qs) (fun q hq => h q (List.mem_cons_of_mem _ hq))
    exact ⟨_, .cons (DV.ints (h q List.mem_cons_self)) h1, by simp [h2]⟩
/-- a list of lists of numbers is empty, or not -/
theorem w_neRefs {ρ : Addr → List Int} {p q : Addr} {qs : List Addr} {Q : VK} (hp : H p = some (.lst (qs.map V.ref))) (hq : H q = some (.lst [])) (h : ∀ q ∈ qs, H q = some (.lst ((ρ q).map V.int))) (k : Q (.bl (!decide (qs = []))) H) : aNe K (.ref p) (.ref q) H Q := by
  obtain ⟨ds, h1, h2⟩ := DvAll.refs (K := K) (n := 8) h
  refine w_neV (d := .list ds) (e := .list []) (DV.lst hp h1) (DV.lst hq .nil) ?_
  cases qs with
  | nil =>
    obtain rfl : ds = [] := List.length_eq_zero_iff.mp h2
    rw [show PyData.eqv (.list []) (.list []) = true by simp [PyData.eqv, PyData.eqvAll]]
    exact k
  | cons q qs =>
    have : PyData.eqvAll ds [] = false := eqvAll_len (by simp [h2])
    rw [show PyData.eqv (.list ds) (.list []) = false by rw [PyData.eqv]; exact this]
    exact k
end
theorem s_cutTG {t : TT} {σ : L2.St} {H : Hp} {Q : Bool → Hp → Prop} (R : Bool → Hp → Prop) (h1 : t σ H R) (h2 : ∀ b H1, R b H1 → Q b H1) : tCutT t σ H Q := ⟨R, h1, h2⟩
theorem w_extMI {H : Hp} {Q : VK} {p q : Addr} {us vs : List Int} (hp : H p = some (.lst (us.map V.int))) (hq : H q = some (.lst (vs.map V.int))) (hl : us.length + vs.length ≤ sizeLine) (k : Q .non (upd H p (.lst ((us ++ vs).map V.int)))) : rExtend (.ref p) [.ref q] H Q :=
  ⟨p, q, _, _, rfl, rfl, hp, hq, by simpa using hl, by rw [← List.map_append]; exact k⟩
theorem kb_ti : kitB "tuple" "int" = some false := by decide +kernel
theorem kb_tb : kitB "tuple" "bool" = some false := by decide +kernel
theorem kb_sb : kitB "str" "bool" = some false := by decide +kernel
theorem kb_nb : kitB "NoneType" "bool" = some false := by decide +kernel
/-! ### xs[lo::3] -/
theorem vals_pick {xs : List V} {us : List Value} (r : Vals xs us) : ∀ ks : List Nat, Vals (ks.filterMap (xs[·]?)) (ks.filterMap (us.toArray[·]?))
  | [] => .nil
  | k :: ks => by
    have ih := vals_pick r ks
    have hl := r.length
    by_cases c : k < xs.length
    · obtain ⟨u, e, ru⟩ := r.get (i := k) (x := xs[k]) (List.getElem?_eq_getElem c)
      rw [List.filterMap_cons, List.filterMap_cons]
      have e1 : xs[k]? = some xs[k] := List.getElem?_eq_getElem c
      have e2 : us.toArray[k]? = some u := by simpa using e
      rw [e1, e2]
      exact .cons ru ih
    · rw [List.filterMap_cons, List.filterMap_cons]
      have e1 : xs[k]? = none := List.getElem?_eq_none (by omega)
      have e2 : us.toArray[k]? = none := by simp; omega
      rw [e1, e2]
      exact ih
def tSlSt (K : PySem.W.Frag) (te : TE) (tl : TO) : TE := fun σ H Q => te σ H fun x H1 => tl σ H1 fun _ H2 => ∃ a xs, x = .ref a ∧ SqL K H2 a xs ∧ ∀ ys : List V, (∀ y ∈ ys, y ∈ xs) → ys.length ≤ xs.length → ∀ p, H2 p = none → Q (.ref p) (upd H2 p (.lst ys))
theorem s_slSt {K : PySem.W.Frag} {te : TE} {tl : TO} {σ : L2.St} {H : Hp} {Q : VK} (k : te σ H fun x H1 => tl σ H1 fun _ H2 => ∃ a xs, x = .ref a ∧ SqL K H2 a xs ∧ ∀ ys : List V, (∀ y ∈ ys, y ∈ xs) → ys.length ≤ xs.length → ∀ p, H2 p = none → Q (.ref p) (upd H2 p (.lst ys))) : tSlSt K te tl σ H Q := k
theorem pe_slSt {X : Cx} {e lo : Expr} {te : TE} {tl : TO} {k : Nat} {p1 p3 pos : Pos} (he : PE X e te) (hl : PO X (some lo) tl) : PE X (.Subscript e (.Slice (some lo) none (some (.Constant (.int 3) k p1)) p3) pos) (tSlSt X.K te tl) := by
  refine ⟨fun pins s σ H Q I h => ?_⟩
  refine Subscript_ (thn (he.run pins s σ H _ I h) fun v s1 ⟨x, H1, I1, r1, q1⟩ => ?_)
  have hst : PO X (some (.Constant (.int 3) k p1)) (tPart (tC (.int 3))) := po_some pe_int
  refine wpAny_Slice (thn (hl.run pins s1 σ H1 _ I1 q1) fun vl s2 ⟨l, H2, I2, pl, q2⟩ => ?_)
  obtain ⟨a, xs, ex, hx, q⟩ := q2
  subst ex
  cases r1
  refine thn (po_none.run pins s2 σ H2 (fun o H3 => o = none ∧ H3 = H2) I2 ⟨rfl, rfl⟩) fun vu s3 ⟨u, H3, I3, pu, eu, e3⟩ => ?_
  subst eu e3
  refine thn (hst.run pins s3 σ H3 (fun o H4 => o = some 3 ∧ H4 = H3) I3 ⟨3, rfl, rfl, rfl⟩) fun vs s4 ⟨o, H4, I4, ps, eo, e4⟩ => ?_
  subst eo e4
  have I5 : Inv X pins σ H4 { s4 with heap := s4.heap.push { cls := .type "slice", data := .fields #[vl, vu, vs] } } := I4.kept (t' := s4.toks) fun b ob q => Heap.get?_push_of_some _ q
  obtain ⟨its, r, ht, hz⟩ := I5.list hx
  have hlen := r.length
  show wpAny (model X.prog X.w) X.A (subscriptTail e (.Slice (some lo) none (some (.Constant (.int 3) k p1)) p3) (.ref a) (.ref s4.heap.objs.size)) (EP X pins σ Q) X.xe { s4 with heap := s4.heap.push { cls := .type "slice", data := .fields #[vl, vu, vs] } }
  refine tail_any (ops := [.ref a, .ref s4.heap.objs.size]) ht.isList.typeIs (PySem.slot_list_getitem.lookup) ?_ (by with_unfolding_all rfl)
  refine wpAny_getItem_list_slice ht.isList (Heap.IsSliceOf.new _ vl vu vs) pl pu ps (by decide) ?_ (by rw [List.size_toArray]; omega)
  have hps := slicePick_size_le its.toArray l none (some 3)
  have rp := vals_pick r (sliceRange (sliceBounds l none (some 3) its.toArray.size).1 (sliceBounds l none (some 3) its.toArray.size).2.1 (sliceBounds l none (some 3) its.toArray.size).2.2)
  have epk : slicePick its.toArray l none (some 3) = ((sliceRange (sliceBounds l none (some 3) its.toArray.size).1 (sliceBounds l none (some 3) its.toArray.size).2.1 (sliceBounds l none (some 3) its.toArray.size).2.2).filterMap (its.toArray[·]?)).toArray := rfl
  rw [epk] at hps ⊢
  generalize sliceRange (sliceBounds l none (some 3) its.toArray.size).1 (sliceBounds l none (some 3) its.toArray.size).2.1 (sliceBounds l none (some 3) its.toArray.size).2.2 = ks at hps rp ⊢
  have hyl : (ks.filterMap (xs[·]?)).length ≤ xs.length := by
    have := rp.length
    rw [List.size_toArray, List.size_toArray] at hps
    omega
  have hym : ∀ y ∈ ks.filterMap (xs[·]?), y ∈ xs := by
    intro y hy
    obtain ⟨j, _, e⟩ := List.mem_filterMap.mp hy
    exact List.mem_of_getElem? e
  refine ⟨.ref _, _, I5.laid (t' := s4.toks) (o := .lst (ks.filterMap (xs[·]?))) (fun b ob q => Heap.get?_push_of_some _ q) (Nat.le_refl _) ?_, rfl, q _ hym hyl _ (I5.hok.fresh (Nat.le_refl _))⟩
  exact ⟨by omega, _, 0, rp, Heap.get?_push_size _ rfl⟩
/-! ### lists of lists of numbers -/
/-- at qs stand the lists xss -/
def Rws (H : Hp) (qs : List Addr) (xss : List (List Int)) : Prop := qs.length = xss.length ∧ ∀ (i : Nat) (q : Addr) (xs : List Int), qs[i]? = some q → xss[i]? = some xs → H q = some (.lst (xs.map V.int))
theorem Rws.nil {H : Hp} : Rws H [] [] := ⟨rfl, fun i q xs h => by simp at h⟩
theorem Rws.kp0 {H H' : Hp} {qs : List Addr} {xss : List (List Int)} (h : Rws H qs xss) (k : Kp [] H H') : Rws H' qs xss := ⟨h.1, fun i q xs h1 h2 => k.at0 (h.2 i q xs h1 h2)⟩
theorem Rws.kpS {ms : List Addr} {H H' : Hp} {qs : List Addr} {xss : List (List Int)} (h : Rws H qs xss) (k : Kp ms H H') (s : ∀ q ∈ qs, q ∉ ms) : Rws H' qs xss := ⟨h.1, fun i q xs h1 h2 => k q _ (h.2 i q xs h1 h2) (s q (List.mem_of_getElem? h1))⟩
theorem Rws.snoc {H : Hp} {qs : List Addr} {xss : List (List Int)} {q : Addr} {xs : List Int} (h : Rws H qs xss) (e : H q = some (.lst (xs.map V.int))) : Rws H (qs ++ [q]) (xss ++ [xs]) := by
  refine ⟨by simp [h.1], fun i q' xs' h1 h2 => ?_⟩
  by_cases z : i < qs.length
  · rw [List.getElem?_append_left z] at h1
    rw [List.getElem?_append_left (by rw [← h.1]; exact z)] at h2
    exact h.2 i q' xs' h1 h2
  · rw [List.getElem?_append_right (by omega)] at h1
    rw [List.getElem?_append_right (by rw [← h.1]; omega), ← h.1] at h2
    by_cases y : i - qs.length = 0
    · rw [y] at h1 h2
      simp at h1 h2
      subst h1 h2
      exact e
    · rw [List.getElem?_eq_none (by simp; omega)] at h1
      cases h1
theorem Rws.at {H : Hp} {qs : List Addr} {xss : List (List Int)} (h : Rws H qs xss) {i : Nat} (hi : i < xss.length) : ∃ q, qs[i]? = some q ∧ H q = some (.lst ((xss.getD i []).map V.int)) := by
  have h1 : i < qs.length := by rw [h.1]; exact hi
  refine ⟨qs[i], List.getElem?_eq_getElem h1, h.2 i _ _ (List.getElem?_eq_getElem h1) ?_⟩
  rw [List.getD_eq_getElem?_getD, List.getElem?_eq_getElem hi]; rfl
/-- one row is changed -/
theorem Rws.set {H : Hp} {qs : List Addr} {xss : List (List Int)} (h : Rws H qs xss) (nd : qs.Nodup) {i : Nat} {q : Addr} {xs : List Int} (hq : qs[i]? = some q) : Rws (upd H q (.lst (xs.map V.int))) qs (xss.set i xs) := by
  refine ⟨by simp [h.1], fun j q' xs' h1 h2 => ?_⟩
  by_cases z : i = j
  · subst z
    rw [hq] at h1
    cases h1
    have : i < xss.length := by rw [← h.1]; exact (List.getElem?_eq_some_iff.mp hq).1
    rw [List.getElem?_set_self this] at h2
    cases h2
    exact upd_same
  · rw [List.getElem?_set_ne z] at h2
    have ne : q' ≠ q := fun e => by
      subst e
      have a1 := List.getElem?_eq_some_iff.mp hq
      have a2 := List.getElem?_eq_some_iff.mp h1
      have nd2 := List.pairwise_iff_getElem.mp nd
      rcases Nat.lt_trichotomy i j with c | c | c
      · exact nd2 i j a1.1 a2.1 c (a1.2.trans a2.2.symm)
      · exact z c
      · exact nd2 j i a2.1 a1.1 c (a2.2.trans a1.2.symm)
    exact upd_get ne (h.2 j q' xs' h1 h2)
end Lk
namespace Lk
open PySem PySem.Spec PyProof.Rows L2
local macro_rules | `(tactic| walk_at "hp") => `(tactic| first
  | assumption
  | exact upd_same
  | ((with_reducible show upd _ _ _ _ = _); first | exact upd_new (by assumption) (by walk_at "hp") | exact upd_get (by walk_at "ne") (by walk_at "hp") | exact upd_kind (by assumption) (by walk_at "hp") (by intro z; cases z))
  | exact Kp.at0 (by assumption) (by walk_at "hp")
  | exact Kp.at (by assumption) (by walk_at "hp") (by walk_at "nm"))
local macro_rules | `(tactic| walk_at "dcd") => `(tactic| first
  | exact decide_eq_decide.mpr (by omega)
  | exact (decide_eq_true (by omega)).symm
  | exact (decide_eq_false (by omega)).symm)
local macro_rules | `(tactic| walk_at "ne") => `(tactic| first
  | assumption
  | exact Ne.symm (by assumption)
  | exact ne_n (by assumption) (by walk_at "hp")
  | exact ne_n' (by assumption) (by walk_at "hp"))
local macro_rules | `(tactic| walk_at "nm") => `(tactic| first
  | exact List.not_mem_nil
  | (refine not_mem2 (by walk_at "ne") ?_; walk_at "nm"))
local macro_rules | `(tactic| walk_at "kp") => `(tactic| first
  | exact Kp.refl
  | assumption
  | (refine Kp.new ?_ (by assumption); walk_at "kp")
  | (refine Kp.mut ?_ (by simp); walk_at "kp")
  | (refine Kp.own ?_ (by walk_at "fr"); walk_at "kp")
  | (refine Kp.trans0 ?_ (by assumption); walk_at "kp")
  | (refine Kp.trans ?_ (by assumption); walk_at "kp"))
local macro_rules | `(tactic| walk_at "num") => `(tactic| first
  | omega
  | (simp only [sizeLine_eq, List.length_map, List.length_append, List.length_cons, List.length_nil, List.length_replicate, List.length_set, List.length_range, CMul, CDivN, CDiv, CPow]; omega)
  | decide)
local macro_rules | `(tactic| walk_at "put") => `(tactic| first
  | (with_reducible exact put_nil)
  | (with_reducible exact put_hit)
  | exact put_miss (by decide) (by walk_at "put"))
local macro_rules | `(tactic| walk_at "fr") => `(tactic| first
  | assumption
  | exact upd_nil (by assumption)
  | exact upd_nil (upd_nil (by assumption))
  | exact upd_nil (upd_nil (upd_nil (by assumption)))
  | exact upd_nil (upd_nil (upd_nil (upd_nil (by assumption))))
  | exact upd_nil (upd_nil (upd_nil (upd_nil (upd_nil (by assumption)))))
  | exact upd_nil (upd_nil (upd_nil (upd_nil (upd_nil (upd_nil (by assumption))))))
  | exact upd_nil (upd_nil (upd_nil (upd_nil (upd_nil (upd_nil (upd_nil (by assumption)))))))
  | exact upd_nil (upd_nil (upd_nil (upd_nil (upd_nil (upd_nil (upd_nil (upd_nil (by assumption))))))))
  | exact upd_nil (upd_nil (upd_nil (upd_nil (upd_nil (upd_nil (upd_nil (upd_nil (upd_nil (by assumption)))))))))
  | exact upd_nil (upd_nil (upd_nil (upd_nil (upd_nil (upd_nil (upd_nil (upd_nil (upd_nil (upd_nil (by assumption))))))))))
  | exact upd_nil (upd_nil (upd_nil (upd_nil (upd_nil (upd_nil (upd_nil (upd_nil (upd_nil (upd_nil (upd_nil (by assumption)))))))))))
  | exact Kp.free (by assumption) (by walk_at "fr"))
local macro_rules | `(tactic| walk_at "lg") => `(tactic| first
  | assumption
  | exact log2_small (by omega))
local macro_rules | `(tactic| walk_at "tst") => `(tactic| first
  | assumption
  | rfl
  | omega)
local macro_rules | `(tactic| walk_at "s") => `(tactic| with_reducible first
  | refine s_seq ?_
  | refine s_var (by with_unfolding_all rfl) ?_
  | refine s_c ?_
  | refine s_op ?_
  | refine s_cons ?_
  | refine s_nil ?_
  | refine s_asg ?_
  | refine s_name (by with_unfolding_all rfl) ?_
  | refine s_sub ?_
  | refine s_callS ?_
  | refine s_CB ?_
  | refine s_BM ?_
  | refine s_BM0 ?_
  | refine s_ret ?_
  | refine s_drop ?_
  | refine s_ifS ?_
  | refine s_B ?_
  | refine s_tru ?_
  | refine s_and ?_
  | refine s_or ?_
  | refine s_not ?_
  | refine s_andV ?_
  | refine s_orV ?_
  | refine s_notV ?_
  | refine s_if ?_
  | refine s_chain ?_
  | refine s_un ?_
  | refine s_lst ?_
  | refine s_tup ?_
  | refine s_sl ?_
  | refine s_nopart ?_
  | refine s_part ?_
  | refine s_next ?_
  | refine s_retN ?_
  | refine s_yes ?_
  | refine s_forR1 ?_
  | refine s_forR2 ?_
  | refine s_forL ?_
  | refine s_forE ?_
  | refine s_lcL ?_
  | refine s_lcR1 ?_
  | refine s_lcR2 ?_
  | refine s_lcE ?_
  | refine s_chain3 ?_
  | refine s_mkx ?_
  | refine s_xfR ?_
  | refine s_fld ?_
  | refine s_sfld ?_
  | refine s_methS ?_
  | refine s_makeS ?_
  | refine s_cval ?_
  | refine s_listRg ?_
  | refine s_lcV ?_
  | refine s_tB ?_
  | refine s_dnew ?_
  | refine s_din ?_
  | refine s_dnin ?_
  | refine s_dget ?_
  | refine s_dput ?_
  | refine s_forT ?_
  | refine s_brk ?_
  | refine s_cont ?_
  | refine s_fmtP ?_
  | refine s_forS ?_
  | refine s_lcT ?_
  | refine s_slSt ?_)
local macro_rules | `(tactic| walk_at "v") => `(tactic| first
  | ((with_reducible show rIx _ _ _ _ _); first  | (refine w_ixM (by walk_at "hp") (by walk_at "num") (by walk_at "num") ?_) | (refine w_ixQ (by assumption) (by walk_at "num") (by walk_at "num") ?_) | (refine w_ixL (by walk_at "hp") (by walk_at "num") (by first | rfl | assumption) ?_) | (refine w_ixT (by walk_at "hp") (by walk_at "num") (by first | rfl | assumption) ?_) | (refine w_ixNeg (by walk_at "hp") (by walk_at "num") (by walk_at "num") ?_))
  | (with_reducible refine w_I0 ?_)
  | ((with_reducible show rI _ _ _ _ _ _); first  | (refine w_I (by walk_at "num") ?_))
  | (with_reducible refine w_B ?_)
  | (with_reducible refine w_truB ?_)
  | (with_reducible refine w_addI ?_)
  | ((with_reducible show aAdd _ _ _ _); first  | (refine w_addL1 (by walk_at "hp") (by walk_at "hp") (by walk_at "num") ?_) | (refine w_addR1 (by walk_at "hp") (by walk_at "hp") (by walk_at "num") ?_) | (refine w_addLM (by walk_at "hp") (by walk_at "hp") (by walk_at "num") ?_) | (refine w_addL (by walk_at "hp") (by walk_at "hp") (by walk_at "num") ?_) | (refine w_addS (by walk_at "num") ?_))
  | (with_reducible refine w_eqI ?_)
  | (with_reducible refine w_neI ?_)
  | (with_reducible refine w_eqB ?_)
  | (with_reducible refine w_neB ?_)
  | (with_reducible refine w_eqS ?_)
  | (with_reducible refine w_neS ?_)
  | ((with_reducible show rIsG _ _ _ _ _ _ _); first  | (refine w_isG (by walk_at "hp") (by walk_at "ef") (by walk_at "et") ?_) | (refine w_isGv (by walk_at "hp") (by walk_at "ef") (by walk_at "et") ?_))
  | ((with_reducible show aXf _ _ _ _ _ _ _ _); first  | (refine w_xf (by walk_at "hp") (by walk_at "ef") (by walk_at "fi") (by rfl) ?_))
  | ((with_reducible show rIn _ false _ _ _ _); first  | (refine w_inI (by walk_at "hp") ?_) | (refine w_inS (by walk_at "hp") ?_) | (refine w_inB (by walk_at "hp") ?_) | (refine w_inST (by walk_at "hp") ?_))
  | ((with_reducible show aFmtP _ _ _); first  | (refine w_fmtP (by walk_at "num") ?_))
  | ((with_reducible show rNotInS _ _ _ _); first  | (refine w_notInC ?_))
  | ((with_reducible show rLeT _ _ _ _ _); first  | (refine w_leT2 (by walk_at "hp") (by walk_at "hp") ?_))
  | ((with_reducible show rIn _ true _ _ _ _); first  | (refine w_notInI (by walk_at "hp") ?_) | (refine w_notInS (by walk_at "hp") ?_) | (refine w_notInB (by walk_at "hp") ?_) | (refine w_notInST (by walk_at "hp") ?_))
  | ((with_reducible show aEq _ _ _ _ _); first  | (refine w_eqLI' (by walk_at "hp") (by walk_at "hp") ?_) | (refine w_eqLI0 (by walk_at "hp") (by walk_at "hp") ?_))
  | ((with_reducible show aNe _ _ _ _ _); first  | (refine w_neLI' (by walk_at "hp") (by walk_at "hp") ?_) | (refine w_neLI0 (by walk_at "hp") (by walk_at "hp") ?_))
  | (with_reducible refine w_truI ?_)
  | (with_reducible refine w_truN ?_)
  | ((with_reducible show aTru _ _ _ _); first  | (refine w_truL (by walk_at "hp") ?_) | (refine w_truT (by walk_at "hp") ?_))
  | ((with_reducible show rSetL _ _ _ _ _); first  | (refine w_setMI (by walk_at "hp") (by walk_at "num") (by walk_at "num") ?_) | (refine w_setMB (by walk_at "hp") (by walk_at "num") (by walk_at "num") ?_) | (refine w_setMS (by walk_at "hp") (by walk_at "num") (by walk_at "num") ?_) | (refine w_setL (by walk_at "hp") (by walk_at "num") (by walk_at "num") ?_))
  | ((with_reducible show aMul _ _ _ _); first  | (refine w_mulI (by walk_at "num") ?_) | (refine w_repI (by walk_at "hp") (by walk_at "num") (by walk_at "num") (by walk_at "num") ?_) | (refine w_repB (by walk_at "hp") (by walk_at "num") (by walk_at "num") (by walk_at "num") ?_))
  | ((with_reducible show tyV _ _ _ _ ∧ _); first  | (refine w_tyL (by walk_at "hp") ?_) | (refine w_tyS ?_))
  | ((with_reducible show rExtend _ _ _ _); first  | (refine w_extMI (by walk_at "hp") (by walk_at "hp") (by walk_at "num") ?_))
  | ((with_reducible show rAppend _ _ _ _); first  | (refine w_appMI (by walk_at "hp") (by walk_at "num") ?_) | (refine w_appMS (by walk_at "hp") (by walk_at "num") ?_) | (refine w_appMB (by walk_at "hp") (by walk_at "num") ?_) | (refine w_appL (by walk_at "hp") (by walk_at "num") ?_))
  | ((with_reducible show rLen _ _ _ _); first  | (refine w_lenM (by walk_at "hp") ?_) | (refine w_lenQ (by assumption) ?_) | (refine w_lenL (by walk_at "hp") ?_) | (refine w_lenT (by walk_at "hp") ?_) | (refine w_lenS (by walk_at "num") ?_))
  | ((with_reducible show rSum _ _ _ _); first  | (refine w_sum (by walk_at "hp") ?_))
  | ((with_reducible show rAll _ _ _ _); first  | (refine w_all (by walk_at "hp") ?_))
  | ((with_reducible show rIsC _ _ _ _); first  | (refine w_isC (by walk_at "hp") ?_))
  | ((with_reducible show rTupOf _ _ _ _); first  | (refine w_tupOf (by walk_at "hp") ?_))
  | (with_reducible refine w_isB ?_)
  | (with_reducible refine w_notB ?_)
  | ((with_reducible show gTup _ _ _ _ _ _ _); first  | (refine w_gTup (by walk_at "hp") rfl ?_))
  | (with_reducible refine w_gCons ?_)
  | (with_reducible refine w_gNil ?_)
  | (with_reducible refine w_abs ?_)
  | (with_reducible refine w_int ?_)
  | ((with_reducible show _ ≤ sizeLine ∧ _); first  | (refine w_new (by walk_at "num") ?_))
  | (with_reducible refine w_U ?_)
  | ((with_reducible show rSlA _ _ _ _ _ _); first  | (refine w_slM (by walk_at "hp") ?_) | (refine w_slL (by walk_at "hp") ?_) | (refine w_slS (by walk_at "num") ?_) | (refine w_slQ (by assumption) ?_))
  | (with_reducible refine w_part ?_)
  | ((with_reducible show rListOf _ _ _ _); first  | (refine w_listL (by walk_at "hp") ?_) | (refine w_listT (by walk_at "hp") ?_))
  | ((with_reducible show rInsert _ _ _ _); first  | (refine w_insMI (by walk_at "hp") (by walk_at "num") (by walk_at "num") (by walk_at "num") ?_) | (refine w_insMS (by walk_at "hp") (by walk_at "num") (by walk_at "num") (by walk_at "num") ?_))
  | ((with_reducible show rReverse _ _ _ _); first  | (refine w_rev (by walk_at "hp") ?_))
  | ((with_reducible show rIsi _ _ _ _); first  | (with_reducible refine w_isiI kb_ii ?_) | (with_reducible refine w_isiI kb_ib ?_) | (with_reducible refine w_isiI kb_is ?_) | (with_reducible refine w_isiI kb_il ?_) | (with_reducible refine w_isiI kb_it ?_) | (with_reducible refine w_isiB kb_bi ?_) | (with_reducible refine w_isiB kb_bb ?_) | (with_reducible refine w_isiB kb_bt ?_) | (with_reducible refine w_isiS kb_ss ?_) | (with_reducible refine w_isiS kb_si ?_) | (with_reducible refine w_isiS kb_st ?_) | (with_reducible refine w_isiS kb_sl ?_) | (with_reducible refine w_isiN kb_nt ?_) | (with_reducible refine w_isiN kb_ni ?_) | (with_reducible refine w_isiN kb_nl ?_) | (with_reducible refine w_isiN kb_ns ?_) | (refine w_isiL (by walk_at "hp") kb_ll ?_) | (refine w_isiT (by walk_at "hp") kb_tt ?_) | (refine w_isiL (by walk_at "hp") kb_lt ?_) | (refine w_isiL (by walk_at "hp") kb_li ?_) | (refine w_isiT (by walk_at "hp") kb_tl ?_) | (refine w_isiT (by walk_at "hp") kb_ti ?_) | (refine w_isiT (by walk_at "hp") kb_tb ?_) | (with_reducible refine w_isiS kb_sb ?_) | (with_reducible refine w_isiN kb_nb ?_))
  | ((with_reducible show aFld _ _ _ _ _); first  | (refine w_fld (by walk_at "hp") (by walk_at "cl") (by walk_at "na") (by rfl) ?_))
  | ((with_reducible show aSFld _ _ _ _ _ _); first  | (refine w_sfld (by walk_at "hp") (by walk_at "cl") (by walk_at "na") (by simp) (by walk_at "put") ?_))
  | ((with_reducible show aMeth _ _ _ _ _); first  | (refine w_meth (by walk_at "hp") (by rfl) ?_))
  | ((with_reducible show aCVal _ _ _ _ _); first  | (refine w_cval (by walk_at "rd") (by walk_at "cv") ?_))
  | ((with_reducible show rJoin _ _ _ _ _); first  | (refine w_join (by walk_at "hp") (by walk_at "num") ?_))
  | ((with_reducible show rSplit _ _ _ _); first  | (refine w_split (by decide) (by walk_at "num") ?_))
  | ((with_reducible show aDIn _ _ _ _); first  | (refine w_dinI (by walk_at "hp") ?_))
  | ((with_reducible show aDNin _ _ _ _); first  | (refine w_dninI (by walk_at "hp") ?_))
  | ((with_reducible show aDPut _ _ _ _ _); first  | (refine w_dputI (by walk_at "hp") (by walk_at "num") ?_))
  | ((with_reducible show rCatT _ _ _ _ _); first  | (refine w_catT (by walk_at "hp") (by walk_at "hp") (by first | exact List.cons_ne_nil _ _ | exact mapNe (by assumption)) (by first | exact List.cons_ne_nil _ _ | exact mapNe (by assumption)) (by walk_at "num") ?_))
  | ((with_reducible show rPopAt _ _ _ _); first  | (refine w_popM (by walk_at "hp") (by walk_at "num") ?_))
  | (with_reducible refine w_digit ?_)
  | (with_reducible refine w_ascii ?_)
  | ((with_reducible show rIntA _ _ _); first  | (with_reducible refine w_intA ?_) | (with_reducible refine w_intB ?_))
  | ((with_reducible show rStrI _ _ _); first  | (refine w_strI (by walk_at "lg") ?_))
  | (with_reducible refine w_rngV ?_)
  | ((with_reducible show aRgL _ _ _ _); first  | (refine w_rgL ⟨(by walk_at "num"), (by walk_at "num"), (by walk_at "num"), (by walk_at "num"), (by walk_at "num")⟩ ?_))
  | (with_reducible refine w_max2 ?_)
  | (with_reducible refine w_min2 ?_)
  | ((with_reducible show aIsN _ _ _ _); first  | (with_reducible refine w_isN_n ?_) | (with_reducible refine w_isN_i ?_) | (with_reducible refine w_isN_r ?_) | (with_reducible refine w_isN_s ?_))
  | ((with_reducible show aNotN _ _ _ _); first  | (with_reducible refine w_notN_n ?_) | (with_reducible refine w_notN_i ?_) | (with_reducible refine w_notN_r ?_) | (with_reducible refine w_notN_s ?_)))
local macro_rules | `(tactic| walk_at "i") => `(tactic| first
  | (with_reducible refine w_ite1 ?_)
  | (with_reducible refine w_ite0 ?_)
  | ((with_reducible refine w_iteT ?_ ?_); (· walk_at "tst"))
  | ((with_reducible refine w_iteF ?_ ?_); (· walk_at "tst"))
  | ((with_reducible refine w_iteNT ?_ ?_); (· walk_at "tst"))
  | ((with_reducible refine w_iteNF ?_ ?_); (· walk_at "tst"))
  | ((with_reducible refine w_itebT ?_ ?_); (· walk_at "tst"))
  | ((with_reducible refine w_itebF ?_ ?_); (· walk_at "tst"))
  | ((with_reducible refine w_itenbT ?_ ?_); (· walk_at "tst"))
  | ((with_reducible refine w_itenbF ?_ ?_); (· walk_at "tst")))
local macro_rules | `(tactic| walk_at "w") => `(tactic| repeat (first | walk_at "s" | walk_at "v" | walk_at "i" | (with_reducible dsimp only)))
def top (i : Nat) : Stmt := PySem.Challenge.pw_latelink_k21_whole_loss_certificates.main.body.getD i (.Pass ⟨0, 0, 0, 0⟩)
abbrev s_check_size : Stmt := top 14
abbrev s_check_operation : Stmt := top 15
abbrev s_check_log : Stmt := top 16
abbrev s__is_legal : Stmt := top 17
abbrev s_is_number : Stmt := top 18
abbrev s_check_gap : Stmt := top 20
abbrev s_left_holds : Stmt := top 21
abbrev s_right_holds : Stmt := top 22
abbrev s_gap_state : Stmt := top 23
abbrev s_gap_states : Stmt := top 24
abbrev s_lost_gaps : Stmt := top 25
abbrev s__numbers : Stmt := top 28
abbrev s__read_rights : Stmt := top 29
abbrev s__read_lefts : Stmt := top 30
abbrev s__read_outs : Stmt := top 31
abbrev s_replay : Stmt := top 34
abbrev s_decided_by : Stmt := top 36
abbrev s__certificate : Stmt := top 38
abbrev s__is_integer : Stmt := top 39
abbrev s_loss_certificate : Stmt := top 40
abbrev s_is_loss_certificate : Stmt := top 41
abbrev s__law_bag : Stmt := top 43
abbrev s__law_draw : Stmt := top 44
abbrev s__law_whole : Stmt := top 45
abbrev s__law_step : Stmt := top 46
abbrev s__law_operation : Stmt := top 47
abbrev s__law_state : Stmt := top 48
abbrev s__law_number : Stmt := top 49
abbrev s__law_size : Stmt := top 50
abbrev s__law_lanes : Stmt := top 51
abbrev s__law_nodes : Stmt := top 52
abbrev s__law_log : Stmt := top 53
abbrev s__law_losses : Stmt := top 54
abbrev s__law_told : Stmt := top 55
abbrev s__law_fits : Stmt := top 56
abbrev s__law_is_triple : Stmt := top 57
abbrev s__law_certified : Stmt := top 58
abbrev s__law_truth : Stmt := top 59
abbrev s__law_values : Stmt := top 60
abbrev s__law_judged : Stmt := top 61
abbrev s__law_pairs : Stmt := top 62
abbrev s__law_values_fit : Stmt := top 63
abbrev s__law_both_refuse : Stmt := top 64
abbrev s__law_refusals : Stmt := top 65
abbrev s_law : Stmt := top 66
abbrev s_BadOperation___init__ : Stmt := inClass (top 4) 0
abbrev s_Illegal___init__ : Stmt := inClass (top 5) 0
abbrev s_BadSize___init__ : Stmt := inClass (top 6) 0
abbrev s_BadNode___init__ : Stmt := inClass (top 7) 0
abbrev s_BadGap___init__ : Stmt := inClass (top 8) 0
abbrev s_BadDump___init__ : Stmt := inClass (top 9) 0
abbrev s_NotLost___init__ : Stmt := inClass (top 10) 0
abbrev s_Links___init__ : Stmt := inClass (top 32) 1
abbrev s_Links_built : Stmt := inClass (top 32) 2
abbrev s_Links_read : Stmt := inClass (top 32) 3
abbrev s_Links_left : Stmt := inClass (top 32) 4
abbrev s_Links_right : Stmt := inClass (top 32) 5
abbrev s_Links_is_out : Stmt := inClass (top 32) 6
abbrev s_Links_outs : Stmt := inClass (top 32) 7
abbrev s_Links_operation_on : Stmt := inClass (top 32) 8
abbrev s_Links_apply : Stmt := inClass (top 32) 9
abbrev s_Links_apply_at : Stmt := inClass (top 32) 10
abbrev s_Links_walk : Stmt := inClass (top 32) 11
abbrev s_Links_walk_back : Stmt := inClass (top 32) 12
abbrev s_Links_is_sound : Stmt := inClass (top 32) 13
abbrev s_Links_is_whole : Stmt := inClass (top 32) 14
abbrev s_Links_copy : Stmt := inClass (top 32) 15
abbrev s_Links_dump : Stmt := inClass (top 32) 16
abbrev s_Links__dump_parts : Stmt := inClass (top 32) 17
abbrev s_Links___str__ : Stmt := inClass (top 32) 18
abbrev s_Links___len__ : Stmt := inClass (top 32) 19
abbrev s_Links___contains__ : Stmt := inClass (top 32) 20
abbrev s_Links___eq__ : Stmt := inClass (top 32) 21
/-- where things stand -/
structure AD where
  f_check_size : Addr
  f_check_operation : Addr
  f_check_log : Addr
  f__is_legal : Addr
  f_check_gap : Addr
  f_left_holds : Addr
  f_right_holds : Addr
  f_gap_state : Addr
  f_gap_states : Addr
  f_lost_gaps : Addr
  f_replay : Addr
  f_decided_by : Addr
  f__certificate : Addr
  f__is_integer : Addr
  f_loss_certificate : Addr
  f_is_loss_certificate : Addr
  f__law_bag : Addr
  f__law_draw : Addr
  f__law_whole : Addr
  f__law_step : Addr
  f__law_operation : Addr
  f__law_state : Addr
  f__law_number : Addr
  f__law_size : Addr
  f__law_lanes : Addr
  f__law_nodes : Addr
  f__law_log : Addr
  f__law_losses : Addr
  f__law_told : Addr
  f__law_fits : Addr
  f__law_is_triple : Addr
  f__law_certified : Addr
  f__law_truth : Addr
  f__law_values : Addr
  f__law_judged : Addr
  f__law_pairs : Addr
  f__law_values_fit : Addr
  f__law_both_refuse : Addr
  f__law_refusals : Addr
  f_law : Addr
  f_Links___init__ : Addr
  f_Links_left : Addr
  f_Links_right : Addr
  f_Links_apply_at : Addr
  Links : Addr
  LinkError : Addr
  LogError : Addr
  BadOperation : Addr
  i_BadOperation : Addr
  Illegal : Addr
  i_Illegal : Addr
  BadSize : Addr
  i_BadSize : Addr
  BadNode : Addr
  i_BadNode : Addr
  BadGap : Addr
  i_BadGap : Addr
  BadDump : Addr
  i_BadDump : Addr
  NotLost : Addr
  i_NotLost : Addr
structure Txt (P : Program) (K : PySem.W.Frag) (mg : Str → Option Value) (a : AD) : Prop where
  n_check_size : Nm K mg "check_size" a.f_check_size
  F_check_size : ∃ fd, Fun K "check_size" "check_size" s_check_size a.f_check_size fd ∧ Binds K fd ["size"] []
  n_check_operation : Nm K mg "check_operation" a.f_check_operation
  F_check_operation : ∃ fd, Fun K "check_operation" "check_operation" s_check_operation a.f_check_operation fd ∧ Binds K fd ["size", "operation", "index"] []
  n_check_log : Nm K mg "check_log" a.f_check_log
  F_check_log : ∃ fd, Fun K "check_log" "check_log" s_check_log a.f_check_log fd ∧ Binds K fd ["size", "log"] []
  n__is_legal : Nm K mg "_is_legal" a.f__is_legal
  F__is_legal : ∃ fd, Fun K "_is_legal" "_is_legal" s__is_legal a.f__is_legal fd ∧ Binds K fd ["flags", "operation"] []
  n_check_gap : Nm K mg "check_gap" a.f_check_gap
  F_check_gap : ∃ fd, Fun K "check_gap" "check_gap" s_check_gap a.f_check_gap fd ∧ Binds K fd ["size", "gap"] []
  n_left_holds : Nm K mg "left_holds" a.f_left_holds
  F_left_holds : ∃ fd, Fun K "left_holds" "left_holds" s_left_holds a.f_left_holds fd ∧ Binds K fd ["links", "gap"] []
  n_right_holds : Nm K mg "right_holds" a.f_right_holds
  F_right_holds : ∃ fd, Fun K "right_holds" "right_holds" s_right_holds a.f_right_holds fd ∧ Binds K fd ["links", "gap"] []
  n_gap_state : Nm K mg "gap_state" a.f_gap_state
  F_gap_state : ∃ fd, Fun K "gap_state" "gap_state" s_gap_state a.f_gap_state fd ∧ Binds K fd ["links", "gap"] []
  n_gap_states : Nm K mg "gap_states" a.f_gap_states
  F_gap_states : ∃ fd, Fun K "gap_states" "gap_states" s_gap_states a.f_gap_states fd ∧ Binds K fd ["links"] []
  n_lost_gaps : Nm K mg "lost_gaps" a.f_lost_gaps
  F_lost_gaps : ∃ fd, Fun K "lost_gaps" "lost_gaps" s_lost_gaps a.f_lost_gaps fd ∧ Binds K fd ["links"] []
  n_replay : Nm K mg "replay" a.f_replay
  F_replay : ∃ fd, Fun K "replay" "replay" s_replay a.f_replay fd ∧ Binds K fd ["size", "log"] []
  n_decided_by : Nm K mg "decided_by" a.f_decided_by
  F_decided_by : ∃ fd, Fun K "decided_by" "decided_by" s_decided_by a.f_decided_by fd ∧ Binds K fd ["size", "log", "gap"] []
  n__certificate : Nm K mg "_certificate" a.f__certificate
  F__certificate : ∃ fd, Fun K "_certificate" "_certificate" s__certificate a.f__certificate fd ∧ Binds K fd ["size", "log", "gap"] []
  n__is_integer : Nm K mg "_is_integer" a.f__is_integer
  F__is_integer : ∃ fd, Fun K "_is_integer" "_is_integer" s__is_integer a.f__is_integer fd ∧ Binds K fd ["value"] []
  n_loss_certificate : Nm K mg "loss_certificate" a.f_loss_certificate
  F_loss_certificate : ∃ fd, Fun K "loss_certificate" "loss_certificate" s_loss_certificate a.f_loss_certificate fd ∧ Binds K fd ["size", "log"] []
  n_is_loss_certificate : Nm K mg "is_loss_certificate" a.f_is_loss_certificate
  F_is_loss_certificate : ∃ fd, Fun K "is_loss_certificate" "is_loss_certificate" s_is_loss_certificate a.f_is_loss_certificate fd ∧ Binds K fd ["size", "log", "value"] []
  n__law_bag : Nm K mg "_law_bag" a.f__law_bag
  F__law_bag : ∃ fd, Fun K "_law_bag" "_law_bag" s__law_bag a.f__law_bag fd ∧ Binds K fd ["_law_script"] []
  n__law_draw : Nm K mg "_law_draw" a.f__law_draw
  F__law_draw : ∃ fd, Fun K "_law_draw" "_law_draw" s__law_draw a.f__law_draw fd ∧ Binds K fd ["_law_bag_here", "_law_many"] []
  n__law_whole : Nm K mg "_law_whole" a.f__law_whole
  F__law_whole : ∃ fd, Fun K "_law_whole" "_law_whole" s__law_whole a.f__law_whole fd ∧ Binds K fd ["_law_size_here"] []
  n__law_step : Nm K mg "_law_step" a.f__law_step
  F__law_step : ∃ fd, Fun K "_law_step" "_law_step" s__law_step a.f__law_step fd ∧ Binds K fd ["_law_book", "_law_node"] []
  n__law_operation : Nm K mg "_law_operation" a.f__law_operation
  F__law_operation : ∃ fd, Fun K "_law_operation" "_law_operation" s__law_operation a.f__law_operation fd ∧ Binds K fd ["_law_book", "_law_node"] []
  n__law_state : Nm K mg "_law_state" a.f__law_state
  F__law_state : ∃ fd, Fun K "_law_state" "_law_state" s__law_state a.f__law_state fd ∧ Binds K fd ["_law_book", "_law_gap"] []
  n__law_number : Nm K mg "_law_number" a.f__law_number
  F__law_number : ∃ fd, Fun K "_law_number" "_law_number" s__law_number a.f__law_number fd ∧ Binds K fd ["_law_told_here"] []
  n__law_size : Nm K mg "_law_size" a.f__law_size
  F__law_size : ∃ fd, Fun K "_law_size" "_law_size" s__law_size a.f__law_size fd ∧ Binds K fd ["_law_bag_here"] []
  n__law_lanes : Nm K mg "_law_lanes" a.f__law_lanes
  F__law_lanes : ∃ fd, Fun K "_law_lanes" "_law_lanes" s__law_lanes a.f__law_lanes fd ∧ Binds K fd ["_law_bag_here", "_law_size_here"] []
  n__law_nodes : Nm K mg "_law_nodes" a.f__law_nodes
  F__law_nodes : ∃ fd, Fun K "_law_nodes" "_law_nodes" s__law_nodes a.f__law_nodes fd ∧ Binds K fd ["_law_bag_here", "_law_size_here"] []
  n__law_log : Nm K mg "_law_log" a.f__law_log
  F__law_log : ∃ fd, Fun K "_law_log" "_law_log" s__law_log a.f__law_log fd ∧ Binds K fd ["_law_bag_here", "_law_size_here"] []
  n__law_losses : Nm K mg "_law_losses" a.f__law_losses
  F__law_losses : ∃ fd, Fun K "_law_losses" "_law_losses" s__law_losses a.f__law_losses fd ∧ Binds K fd ["_law_size_here", "_law_moves"] []
  n__law_told : Nm K mg "_law_told" a.f__law_told
  F__law_told : ∃ fd, Fun K "_law_told" "_law_told" s__law_told a.f__law_told fd ∧ Binds K fd ["_law_asks", "_law_size_here", "_law_moves", "_law_value"] []
  n__law_fits : Nm K mg "_law_fits" a.f__law_fits
  F__law_fits : ∃ fd, Fun K "_law_fits" "_law_fits" s__law_fits a.f__law_fits fd ∧ Binds K fd ["_law_told_here", "_law_word", "_law_first", "_law_second"] []
  n__law_is_triple : Nm K mg "_law_is_triple" a.f__law_is_triple
  F__law_is_triple : ∃ fd, Fun K "_law_is_triple" "_law_is_triple" s__law_is_triple a.f__law_is_triple fd ∧ Binds K fd ["_law_value"] []
  n__law_certified : Nm K mg "_law_certified" a.f__law_certified
  F__law_certified : ∃ fd, Fun K "_law_certified" "_law_certified" s__law_certified a.f__law_certified fd ∧ Binds K fd ["_law_size_here", "_law_moves"] []
  n__law_truth : Nm K mg "_law_truth" a.f__law_truth
  F__law_truth : ∃ fd, Fun K "_law_truth" "_law_truth" s__law_truth a.f__law_truth fd ∧ Binds K fd ["_law_number_here"] []
  n__law_values : Nm K mg "_law_values" a.f__law_values
  F__law_values : ∃ fd, Fun K "_law_values" "_law_values" s__law_values a.f__law_values fd ∧ Binds K fd ["_law_triple"] []
  n__law_judged : Nm K mg "_law_judged" a.f__law_judged
  F__law_judged : ∃ fd, Fun K "_law_judged" "_law_judged" s__law_judged a.f__law_judged fd ∧ Binds K fd ["_law_size_here", "_law_moves", "_law_losses_here", "_law_value"] []
  n__law_pairs : Nm K mg "_law_pairs" a.f__law_pairs
  F__law_pairs : ∃ fd, Fun K "_law_pairs" "_law_pairs" s__law_pairs a.f__law_pairs fd ∧ Binds K fd ["_law_bag_here", "_law_size_here", "_law_moves", "_law_losses_here"] []
  n__law_values_fit : Nm K mg "_law_values_fit" a.f__law_values_fit
  F__law_values_fit : ∃ fd, Fun K "_law_values_fit" "_law_values_fit" s__law_values_fit a.f__law_values_fit fd ∧ Binds K fd ["_law_bag_here", "_law_size_here", "_law_moves"] []
  n__law_both_refuse : Nm K mg "_law_both_refuse" a.f__law_both_refuse
  F__law_both_refuse : ∃ fd, Fun K "_law_both_refuse" "_law_both_refuse" s__law_both_refuse a.f__law_both_refuse fd ∧ Binds K fd ["_law_size_here", "_law_moves", "_law_word", "_law_first", "_law_second"] []
  n__law_refusals : Nm K mg "_law_refusals" a.f__law_refusals
  F__law_refusals : ∃ fd, Fun K "_law_refusals" "_law_refusals" s__law_refusals a.f__law_refusals fd ∧ Binds K fd ["_law_bag_here", "_law_size_here", "_law_moves"] []
  n_law : Nm K mg "law" a.f_law
  F_law : ∃ fd, Fun K "law" "law" s_law a.f_law fd ∧ Binds K fd ["_law_script"] []
  c_Links : mg "Links" = some (.ref a.Links)
  cl_Links : Cls K a.Links
  mk_Links : Mk K a.Links a.f_Links___init__
  rd_Links : ClX.CRead K a.Links (.type "type")
  na_Links_size : NoAttr K a.Links "size"
  na_Links__lefts : NoAttr K a.Links "_lefts"
  na_Links__rights : NoAttr K a.Links "_rights"
  na_Links__flags : NoAttr K a.Links "_flags"
  cv_Links_MOST : ∃ t, ClX.CVal K a.Links (.type "type") "MOST" (.int 60) (.int 60 t)
  F_Links___init__ : ∃ fd, Fun K "__init__" "Links.__init__" s_Links___init__ a.f_Links___init__ fd ∧ Binds K fd ["self", "size"] []
  me_Links_left : Meth K a.Links "left" a.f_Links_left
  F_Links_left : ∃ fd, Fun K "left" "Links.left" s_Links_left a.f_Links_left fd ∧ Binds K fd ["self", "node"] []
  me_Links_right : Meth K a.Links "right" a.f_Links_right
  F_Links_right : ∃ fd, Fun K "right" "Links.right" s_Links_right a.f_Links_right fd ∧ Binds K fd ["self", "node"] []
  me_Links_apply_at : Meth K a.Links "apply_at" a.f_Links_apply_at
  F_Links_apply_at : ∃ fd, Fun K "apply_at" "Links.apply_at" s_Links_apply_at a.f_Links_apply_at fd ∧ Binds K fd ["self", "operation", "index"] []
  c_LinkError : mg "LinkError" = some (.ref a.LinkError)
  c_LogError : mg "LogError" = some (.ref a.LogError)
  c_BadOperation : mg "BadOperation" = some (.ref a.BadOperation)
  x_BadOperation : LkX.ExcTxt P K a.BadOperation a.i_BadOperation ["operation", "index"]
  e_BadOperation : ExcC K a.BadOperation ∧ XfC K a.BadOperation
  c_Illegal : mg "Illegal" = some (.ref a.Illegal)
  x_Illegal : LkX.ExcTxt P K a.Illegal a.i_Illegal ["operation", "index"]
  e_Illegal : ExcC K a.Illegal ∧ XfC K a.Illegal
  c_BadSize : mg "BadSize" = some (.ref a.BadSize)
  x_BadSize : LkX.ExcTxt P K a.BadSize a.i_BadSize ["size"]
  e_BadSize : ExcC K a.BadSize ∧ XfC K a.BadSize
  c_BadNode : mg "BadNode" = some (.ref a.BadNode)
  x_BadNode : LkX.ExcTxt P K a.BadNode a.i_BadNode ["node"]
  e_BadNode : ExcC K a.BadNode ∧ XfC K a.BadNode
  c_BadGap : mg "BadGap" = some (.ref a.BadGap)
  x_BadGap : LkX.ExcTxt P K a.BadGap a.i_BadGap ["gap"]
  e_BadGap : ExcC K a.BadGap ∧ XfC K a.BadGap
  c_BadDump : mg "BadDump" = some (.ref a.BadDump)
  x_BadDump : LkX.ExcTxt P K a.BadDump a.i_BadDump ["part"]
  e_BadDump : ExcC K a.BadDump ∧ XfC K a.BadDump
  c_NotLost : mg "NotLost" = some (.ref a.NotLost)
  x_NotLost : LkX.ExcTxt P K a.NotLost a.i_NotLost ["size"]
  e_NotLost : ExcC K a.NotLost ∧ XfC K a.NotLost
  t_BadOperation_LinkError : PySem.W.kitOne K (.ref a.BadOperation) (.ref a.LinkError) = some true ∧ PySem.W.exmOne K (.ref a.BadOperation) (.ref a.LinkError) = some true
  t_BadOperation_LogError : PySem.W.kitOne K (.ref a.BadOperation) (.ref a.LogError) = some true ∧ PySem.W.exmOne K (.ref a.BadOperation) (.ref a.LogError) = some true
  t_BadOperation_BadOperation : PySem.W.kitOne K (.ref a.BadOperation) (.ref a.BadOperation) = some true ∧ PySem.W.exmOne K (.ref a.BadOperation) (.ref a.BadOperation) = some true
  t_BadOperation_Illegal : PySem.W.kitOne K (.ref a.BadOperation) (.ref a.Illegal) = some false ∧ PySem.W.exmOne K (.ref a.BadOperation) (.ref a.Illegal) = some false
  t_BadOperation_BadSize : PySem.W.kitOne K (.ref a.BadOperation) (.ref a.BadSize) = some false ∧ PySem.W.exmOne K (.ref a.BadOperation) (.ref a.BadSize) = some false
  t_BadOperation_BadNode : PySem.W.kitOne K (.ref a.BadOperation) (.ref a.BadNode) = some false ∧ PySem.W.exmOne K (.ref a.BadOperation) (.ref a.BadNode) = some false
  t_BadOperation_BadGap : PySem.W.kitOne K (.ref a.BadOperation) (.ref a.BadGap) = some false ∧ PySem.W.exmOne K (.ref a.BadOperation) (.ref a.BadGap) = some false
  t_BadOperation_BadDump : PySem.W.kitOne K (.ref a.BadOperation) (.ref a.BadDump) = some false ∧ PySem.W.exmOne K (.ref a.BadOperation) (.ref a.BadDump) = some false
  t_BadOperation_NotLost : PySem.W.kitOne K (.ref a.BadOperation) (.ref a.NotLost) = some false ∧ PySem.W.exmOne K (.ref a.BadOperation) (.ref a.NotLost) = some false
  v_BadOperation : PySem.W.kitOne K (.ref a.BadOperation) (.type "ValueError") = some true
  t_Illegal_LinkError : PySem.W.kitOne K (.ref a.Illegal) (.ref a.LinkError) = some true ∧ PySem.W.exmOne K (.ref a.Illegal) (.ref a.LinkError) = some true
  t_Illegal_LogError : PySem.W.kitOne K (.ref a.Illegal) (.ref a.LogError) = some true ∧ PySem.W.exmOne K (.ref a.Illegal) (.ref a.LogError) = some true
  t_Illegal_BadOperation : PySem.W.kitOne K (.ref a.Illegal) (.ref a.BadOperation) = some false ∧ PySem.W.exmOne K (.ref a.Illegal) (.ref a.BadOperation) = some false
  t_Illegal_Illegal : PySem.W.kitOne K (.ref a.Illegal) (.ref a.Illegal) = some true ∧ PySem.W.exmOne K (.ref a.Illegal) (.ref a.Illegal) = some true
  t_Illegal_BadSize : PySem.W.kitOne K (.ref a.Illegal) (.ref a.BadSize) = some false ∧ PySem.W.exmOne K (.ref a.Illegal) (.ref a.BadSize) = some false
  t_Illegal_BadNode : PySem.W.kitOne K (.ref a.Illegal) (.ref a.BadNode) = some false ∧ PySem.W.exmOne K (.ref a.Illegal) (.ref a.BadNode) = some false
  t_Illegal_BadGap : PySem.W.kitOne K (.ref a.Illegal) (.ref a.BadGap) = some false ∧ PySem.W.exmOne K (.ref a.Illegal) (.ref a.BadGap) = some false
  t_Illegal_BadDump : PySem.W.kitOne K (.ref a.Illegal) (.ref a.BadDump) = some false ∧ PySem.W.exmOne K (.ref a.Illegal) (.ref a.BadDump) = some false
  t_Illegal_NotLost : PySem.W.kitOne K (.ref a.Illegal) (.ref a.NotLost) = some false ∧ PySem.W.exmOne K (.ref a.Illegal) (.ref a.NotLost) = some false
  v_Illegal : PySem.W.kitOne K (.ref a.Illegal) (.type "ValueError") = some true
  t_BadSize_LinkError : PySem.W.kitOne K (.ref a.BadSize) (.ref a.LinkError) = some true ∧ PySem.W.exmOne K (.ref a.BadSize) (.ref a.LinkError) = some true
  t_BadSize_LogError : PySem.W.kitOne K (.ref a.BadSize) (.ref a.LogError) = some false ∧ PySem.W.exmOne K (.ref a.BadSize) (.ref a.LogError) = some false
  t_BadSize_BadOperation : PySem.W.kitOne K (.ref a.BadSize) (.ref a.BadOperation) = some false ∧ PySem.W.exmOne K (.ref a.BadSize) (.ref a.BadOperation) = some false
  t_BadSize_Illegal : PySem.W.kitOne K (.ref a.BadSize) (.ref a.Illegal) = some false ∧ PySem.W.exmOne K (.ref a.BadSize) (.ref a.Illegal) = some false
  t_BadSize_BadSize : PySem.W.kitOne K (.ref a.BadSize) (.ref a.BadSize) = some true ∧ PySem.W.exmOne K (.ref a.BadSize) (.ref a.BadSize) = some true
  t_BadSize_BadNode : PySem.W.kitOne K (.ref a.BadSize) (.ref a.BadNode) = some false ∧ PySem.W.exmOne K (.ref a.BadSize) (.ref a.BadNode) = some false
  t_BadSize_BadGap : PySem.W.kitOne K (.ref a.BadSize) (.ref a.BadGap) = some false ∧ PySem.W.exmOne K (.ref a.BadSize) (.ref a.BadGap) = some false
  t_BadSize_BadDump : PySem.W.kitOne K (.ref a.BadSize) (.ref a.BadDump) = some false ∧ PySem.W.exmOne K (.ref a.BadSize) (.ref a.BadDump) = some false
  t_BadSize_NotLost : PySem.W.kitOne K (.ref a.BadSize) (.ref a.NotLost) = some false ∧ PySem.W.exmOne K (.ref a.BadSize) (.ref a.NotLost) = some false
  v_BadSize : PySem.W.kitOne K (.ref a.BadSize) (.type "ValueError") = some true
  t_BadNode_LinkError : PySem.W.kitOne K (.ref a.BadNode) (.ref a.LinkError) = some true ∧ PySem.W.exmOne K (.ref a.BadNode) (.ref a.LinkError) = some true
  t_BadNode_LogError : PySem.W.kitOne K (.ref a.BadNode) (.ref a.LogError) = some false ∧ PySem.W.exmOne K (.ref a.BadNode) (.ref a.LogError) = some false
  t_BadNode_BadOperation : PySem.W.kitOne K (.ref a.BadNode) (.ref a.BadOperation) = some false ∧ PySem.W.exmOne K (.ref a.BadNode) (.ref a.BadOperation) = some false
  t_BadNode_Illegal : PySem.W.kitOne K (.ref a.BadNode) (.ref a.Illegal) = some false ∧ PySem.W.exmOne K (.ref a.BadNode) (.ref a.Illegal) = some false
  t_BadNode_BadSize : PySem.W.kitOne K (.ref a.BadNode) (.ref a.BadSize) = some false ∧ PySem.W.exmOne K (.ref a.BadNode) (.ref a.BadSize) = some false
  t_BadNode_BadNode : PySem.W.kitOne K (.ref a.BadNode) (.ref a.BadNode) = some true ∧ PySem.W.exmOne K (.ref a.BadNode) (.ref a.BadNode) = some true
  t_BadNode_BadGap : PySem.W.kitOne K (.ref a.BadNode) (.ref a.BadGap) = some false ∧ PySem.W.exmOne K (.ref a.BadNode) (.ref a.BadGap) = some false
  t_BadNode_BadDump : PySem.W.kitOne K (.ref a.BadNode) (.ref a.BadDump) = some false ∧ PySem.W.exmOne K (.ref a.BadNode) (.ref a.BadDump) = some false
  t_BadNode_NotLost : PySem.W.kitOne K (.ref a.BadNode) (.ref a.NotLost) = some false ∧ PySem.W.exmOne K (.ref a.BadNode) (.ref a.NotLost) = some false
  v_BadNode : PySem.W.kitOne K (.ref a.BadNode) (.type "ValueError") = some true
  t_BadGap_LinkError : PySem.W.kitOne K (.ref a.BadGap) (.ref a.LinkError) = some true ∧ PySem.W.exmOne K (.ref a.BadGap) (.ref a.LinkError) = some true
  t_BadGap_LogError : PySem.W.kitOne K (.ref a.BadGap) (.ref a.LogError) = some false ∧ PySem.W.exmOne K (.ref a.BadGap) (.ref a.LogError) = some false
  t_BadGap_BadOperation : PySem.W.kitOne K (.ref a.BadGap) (.ref a.BadOperation) = some false ∧ PySem.W.exmOne K (.ref a.BadGap) (.ref a.BadOperation) = some false
  t_BadGap_Illegal : PySem.W.kitOne K (.ref a.BadGap) (.ref a.Illegal) = some false ∧ PySem.W.exmOne K (.ref a.BadGap) (.ref a.Illegal) = some false
  t_BadGap_BadSize : PySem.W.kitOne K (.ref a.BadGap) (.ref a.BadSize) = some false ∧ PySem.W.exmOne K (.ref a.BadGap) (.ref a.BadSize) = some false
  t_BadGap_BadNode : PySem.W.kitOne K (.ref a.BadGap) (.ref a.BadNode) = some false ∧ PySem.W.exmOne K (.ref a.BadGap) (.ref a.BadNode) = some false
  t_BadGap_BadGap : PySem.W.kitOne K (.ref a.BadGap) (.ref a.BadGap) = some true ∧ PySem.W.exmOne K (.ref a.BadGap) (.ref a.BadGap) = some true
  t_BadGap_BadDump : PySem.W.kitOne K (.ref a.BadGap) (.ref a.BadDump) = some false ∧ PySem.W.exmOne K (.ref a.BadGap) (.ref a.BadDump) = some false
  t_BadGap_NotLost : PySem.W.kitOne K (.ref a.BadGap) (.ref a.NotLost) = some false ∧ PySem.W.exmOne K (.ref a.BadGap) (.ref a.NotLost) = some false
  v_BadGap : PySem.W.kitOne K (.ref a.BadGap) (.type "ValueError") = some true
  t_BadDump_LinkError : PySem.W.kitOne K (.ref a.BadDump) (.ref a.LinkError) = some true ∧ PySem.W.exmOne K (.ref a.BadDump) (.ref a.LinkError) = some true
  t_BadDump_LogError : PySem.W.kitOne K (.ref a.BadDump) (.ref a.LogError) = some false ∧ PySem.W.exmOne K (.ref a.BadDump) (.ref a.LogError) = some false
  t_BadDump_BadOperation : PySem.W.kitOne K (.ref a.BadDump) (.ref a.BadOperation) = some false ∧ PySem.W.exmOne K (.ref a.BadDump) (.ref a.BadOperation) = some false
  t_BadDump_Illegal : PySem.W.kitOne K (.ref a.BadDump) (.ref a.Illegal) = some false ∧ PySem.W.exmOne K (.ref a.BadDump) (.ref a.Illegal) = some false
  t_BadDump_BadSize : PySem.W.kitOne K (.ref a.BadDump) (.ref a.BadSize) = some false ∧ PySem.W.exmOne K (.ref a.BadDump) (.ref a.BadSize) = some false
  t_BadDump_BadNode : PySem.W.kitOne K (.ref a.BadDump) (.ref a.BadNode) = some false ∧ PySem.W.exmOne K (.ref a.BadDump) (.ref a.BadNode) = some false
  t_BadDump_BadGap : PySem.W.kitOne K (.ref a.BadDump) (.ref a.BadGap) = some false ∧ PySem.W.exmOne K (.ref a.BadDump) (.ref a.BadGap) = some false
  t_BadDump_BadDump : PySem.W.kitOne K (.ref a.BadDump) (.ref a.BadDump) = some true ∧ PySem.W.exmOne K (.ref a.BadDump) (.ref a.BadDump) = some true
  t_BadDump_NotLost : PySem.W.kitOne K (.ref a.BadDump) (.ref a.NotLost) = some false ∧ PySem.W.exmOne K (.ref a.BadDump) (.ref a.NotLost) = some false
  v_BadDump : PySem.W.kitOne K (.ref a.BadDump) (.type "ValueError") = some true
  t_NotLost_LinkError : PySem.W.kitOne K (.ref a.NotLost) (.ref a.LinkError) = some true ∧ PySem.W.exmOne K (.ref a.NotLost) (.ref a.LinkError) = some true
  t_NotLost_LogError : PySem.W.kitOne K (.ref a.NotLost) (.ref a.LogError) = some false ∧ PySem.W.exmOne K (.ref a.NotLost) (.ref a.LogError) = some false
  t_NotLost_BadOperation : PySem.W.kitOne K (.ref a.NotLost) (.ref a.BadOperation) = some false ∧ PySem.W.exmOne K (.ref a.NotLost) (.ref a.BadOperation) = some false
  t_NotLost_Illegal : PySem.W.kitOne K (.ref a.NotLost) (.ref a.Illegal) = some false ∧ PySem.W.exmOne K (.ref a.NotLost) (.ref a.Illegal) = some false
  t_NotLost_BadSize : PySem.W.kitOne K (.ref a.NotLost) (.ref a.BadSize) = some false ∧ PySem.W.exmOne K (.ref a.NotLost) (.ref a.BadSize) = some false
  t_NotLost_BadNode : PySem.W.kitOne K (.ref a.NotLost) (.ref a.BadNode) = some false ∧ PySem.W.exmOne K (.ref a.NotLost) (.ref a.BadNode) = some false
  t_NotLost_BadGap : PySem.W.kitOne K (.ref a.NotLost) (.ref a.BadGap) = some false ∧ PySem.W.exmOne K (.ref a.NotLost) (.ref a.BadGap) = some false
  t_NotLost_BadDump : PySem.W.kitOne K (.ref a.NotLost) (.ref a.BadDump) = some false ∧ PySem.W.exmOne K (.ref a.NotLost) (.ref a.BadDump) = some false
  t_NotLost_NotLost : PySem.W.kitOne K (.ref a.NotLost) (.ref a.NotLost) = some true ∧ PySem.W.exmOne K (.ref a.NotLost) (.ref a.NotLost) = some true
  v_NotLost : PySem.W.kitOne K (.ref a.NotLost) (.type "ValueError") = some true
  b_ValueError : mg "ValueError" = none
  b_enumerate : mg "enumerate" = none
  b_range : mg "range" = none
  b_list : mg "list" = none
  b_int : mg "int" = none
  b_abs : mg "abs" = none
  b_len : mg "len" = none
  b_isinstance : mg "isinstance" = none
  b_all : mg "all" = none
  b_str : mg "str" = none
  b_bool : mg "bool" = none
  b_tuple : mg "tuple" = none
  b_super : mg "super" = none
  k_MOST_NODES : ∃ t, mg "MOST_NODES" = some (.int 60 t)
  k_MOST_DIGITS : ∃ t, mg "MOST_DIGITS" = some (.int 9 t)
  k_PARTS : ∃ t, mg "PARTS" = some (.int 3 t)
def xBadOperation (a : AD) (v0 : V) (v1 : V) (E : XK) (H : Hp) : Prop := ∀ d H', H d = none → H' d = some (.xd [("operation", v0), ("index", v1)]) → Kp [] H H' → E (.ref a.BadOperation) (some d) H'
def xIllegal (a : AD) (v0 : V) (v1 : V) (E : XK) (H : Hp) : Prop := ∀ d H', H d = none → H' d = some (.xd [("operation", v0), ("index", v1)]) → Kp [] H H' → E (.ref a.Illegal) (some d) H'
def xBadSize (a : AD) (v0 : V) (E : XK) (H : Hp) : Prop := ∀ d H', H d = none → H' d = some (.xd [("size", v0)]) → Kp [] H H' → E (.ref a.BadSize) (some d) H'
def xBadNode (a : AD) (v0 : V) (E : XK) (H : Hp) : Prop := ∀ d H', H d = none → H' d = some (.xd [("node", v0)]) → Kp [] H H' → E (.ref a.BadNode) (some d) H'
def xBadGap (a : AD) (v0 : V) (E : XK) (H : Hp) : Prop := ∀ d H', H d = none → H' d = some (.xd [("gap", v0)]) → Kp [] H H' → E (.ref a.BadGap) (some d) H'
def xBadDump (a : AD) (v0 : V) (E : XK) (H : Hp) : Prop := ∀ d H', H d = none → H' d = some (.xd [("part", v0)]) → Kp [] H H' → E (.ref a.BadDump) (some d) H'
def xNotLost (a : AD) (v0 : V) (E : XK) (H : Hp) : Prop := ∀ d H', H d = none → H' d = some (.xd [("size", v0)]) → Kp [] H H' → E (.ref a.NotLost) (some d) H'
local macro_rules | `(tactic| walk_at "ef") => `(tactic| with_reducible first | exact (Txt.e_BadOperation (by assumption)).1 | exact (Txt.e_BadOperation (by assumption)).2 | exact (Txt.e_Illegal (by assumption)).1 | exact (Txt.e_Illegal (by assumption)).2 | exact (Txt.e_BadSize (by assumption)).1 | exact (Txt.e_BadSize (by assumption)).2 | exact (Txt.e_BadNode (by assumption)).1 | exact (Txt.e_BadNode (by assumption)).2 | exact (Txt.e_BadGap (by assumption)).1 | exact (Txt.e_BadGap (by assumption)).2 | exact (Txt.e_BadDump (by assumption)).1 | exact (Txt.e_BadDump (by assumption)).2 | exact (Txt.e_NotLost (by assumption)).1 | exact (Txt.e_NotLost (by assumption)).2)
local macro_rules | `(tactic| walk_at "et") => `(tactic| with_reducible first | exact Txt.v_BadOperation (by assumption) | exact (Txt.t_BadOperation_LinkError (by assumption)).1 | exact (Txt.t_BadOperation_LogError (by assumption)).1 | exact (Txt.t_BadOperation_BadOperation (by assumption)).1 | exact (Txt.t_BadOperation_Illegal (by assumption)).1 | exact (Txt.t_BadOperation_BadSize (by assumption)).1 | exact (Txt.t_BadOperation_BadNode (by assumption)).1 | exact (Txt.t_BadOperation_BadGap (by assumption)).1 | exact (Txt.t_BadOperation_BadDump (by assumption)).1 | exact (Txt.t_BadOperation_NotLost (by assumption)).1 | exact Txt.v_Illegal (by assumption) | exact (Txt.t_Illegal_LinkError (by assumption)).1 | exact (Txt.t_Illegal_LogError (by assumption)).1 | exact (Txt.t_Illegal_BadOperation (by assumption)).1 | exact (Txt.t_Illegal_Illegal (by assumption)).1 | exact (Txt.t_Illegal_BadSize (by assumption)).1 | exact (Txt.t_Illegal_BadNode (by assumption)).1 | exact (Txt.t_Illegal_BadGap (by assumption)).1 | exact (Txt.t_Illegal_BadDump (by assumption)).1 | exact (Txt.t_Illegal_NotLost (by assumption)).1 | exact Txt.v_BadSize (by assumption) | exact (Txt.t_BadSize_LinkError (by assumption)).1 | exact (Txt.t_BadSize_LogError (by assumption)).1 | exact (Txt.t_BadSize_BadOperation (by assumption)).1 | exact (Txt.t_BadSize_Illegal (by assumption)).1 | exact (Txt.t_BadSize_BadSize (by assumption)).1 | exact (Txt.t_BadSize_BadNode (by assumption)).1 | exact (Txt.t_BadSize_BadGap (by assumption)).1 | exact (Txt.t_BadSize_BadDump (by assumption)).1 | exact (Txt.t_BadSize_NotLost (by assumption)).1 | exact Txt.v_BadNode (by assumption) | exact (Txt.t_BadNode_LinkError (by assumption)).1 | exact (Txt.t_BadNode_LogError (by assumption)).1 | exact (Txt.t_BadNode_BadOperation (by assumption)).1 | exact (Txt.t_BadNode_Illegal (by assumption)).1 | exact (Txt.t_BadNode_BadSize (by assumption)).1 | exact (Txt.t_BadNode_BadNode (by assumption)).1 | exact (Txt.t_BadNode_BadGap (by assumption)).1 | exact (Txt.t_BadNode_BadDump (by assumption)).1 | exact (Txt.t_BadNode_NotLost (by assumption)).1 | exact Txt.v_BadGap (by assumption) | exact (Txt.t_BadGap_LinkError (by assumption)).1 | exact (Txt.t_BadGap_LogError (by assumption)).1 | exact (Txt.t_BadGap_BadOperation (by assumption)).1 | exact (Txt.t_BadGap_Illegal (by assumption)).1 | exact (Txt.t_BadGap_BadSize (by assumption)).1 | exact (Txt.t_BadGap_BadNode (by assumption)).1 | exact (Txt.t_BadGap_BadGap (by assumption)).1 | exact (Txt.t_BadGap_BadDump (by assumption)).1 | exact (Txt.t_BadGap_NotLost (by assumption)).1 | exact Txt.v_BadDump (by assumption) | exact (Txt.t_BadDump_LinkError (by assumption)).1 | exact (Txt.t_BadDump_LogError (by assumption)).1 | exact (Txt.t_BadDump_BadOperation (by assumption)).1 | exact (Txt.t_BadDump_Illegal (by assumption)).1 | exact (Txt.t_BadDump_BadSize (by assumption)).1 | exact (Txt.t_BadDump_BadNode (by assumption)).1 | exact (Txt.t_BadDump_BadGap (by assumption)).1 | exact (Txt.t_BadDump_BadDump (by assumption)).1 | exact (Txt.t_BadDump_NotLost (by assumption)).1 | exact Txt.v_NotLost (by assumption) | exact (Txt.t_NotLost_LinkError (by assumption)).1 | exact (Txt.t_NotLost_LogError (by assumption)).1 | exact (Txt.t_NotLost_BadOperation (by assumption)).1 | exact (Txt.t_NotLost_Illegal (by assumption)).1 | exact (Txt.t_NotLost_BadSize (by assumption)).1 | exact (Txt.t_NotLost_BadNode (by assumption)).1 | exact (Txt.t_NotLost_BadGap (by assumption)).1 | exact (Txt.t_NotLost_BadDump (by assumption)).1 | exact (Txt.t_NotLost_NotLost (by assumption)).1)
local macro_rules | `(tactic| walk_at "fi") => `(tactic| with_reducible first | exact (Txt.x_BadOperation (by assumption)).noN _ (by decide) | exact (Txt.x_Illegal (by assumption)).noN _ (by decide) | exact (Txt.x_BadSize (by assumption)).noN _ (by decide) | exact (Txt.x_BadNode (by assumption)).noN _ (by decide) | exact (Txt.x_BadGap (by assumption)).noN _ (by decide) | exact (Txt.x_BadDump (by assumption)).noN _ (by decide) | exact (Txt.x_NotLost (by assumption)).noN _ (by decide))
local macro_rules | `(tactic| walk_at "cl") => `(tactic| with_reducible first | exact Txt.cl_Links (by assumption))
local macro_rules | `(tactic| walk_at "na") => `(tactic| with_reducible first | exact Txt.na_Links_size (by assumption) | exact Txt.na_Links__lefts (by assumption) | exact Txt.na_Links__rights (by assumption) | exact Txt.na_Links__flags (by assumption))
local macro_rules | `(tactic| walk_at "rd") => `(tactic| with_reducible first | exact Txt.rd_Links (by assumption))
local macro_rules | `(tactic| walk_at "cv") => `(tactic| with_reducible first | exact (Txt.cv_Links_MOST (by assumption)).choose_spec)
/-! ### what the checks ask -/
def IsOp (n o : Int) : Prop := o ≠ 0 ∧ (o.natAbs : Int) ≤ n
instance (n o : Int) : Decidable (IsOp n o) := inferInstanceAs (Decidable (_ ∧ _))
def sp_check_size (a : AD) : Sp := fun vs H Q E => ∃ n : Int, vs = [.int n] ∧ (¬(0 ≤ n ∧ n ≤ 60) → xBadSize a (.int n) E H) ∧ (0 ≤ n → n ≤ 60 → Q .non H)
def sp_check_operation (a : AD) : Sp := fun vs H Q E => ∃ n o i : Int, vs = [.int n, .int o, .int i] ∧ (¬IsOp n o → xBadOperation a (.int o) (.int i) E H) ∧ (IsOp n o → Q .non H)
theorem sc_check_size : FnScope ["size"] ["size"] (defScope s_check_size) := ⟨rfl, rfl, rfl, by decide +kernel, rfl, by decide +kernel, by decide +kernel⟩
theorem ok_check_size {P : Program} {w : World} {K : PySem.W.Frag} {mg : Str → Option Value} {base : Heap} {a : AD} (T : Txt P K mg a) : FnA P w K mg base 2 a.f_check_size ["size"] (sp_check_size a) := by
  obtain ⟨fd, F, b⟩ := T.F_check_size
  refine FnA.of F sc_check_size b (fun vs H Q E h => by first | (obtain ⟨rfl, _⟩ := h; rfl) | (obtain ⟨_, rfl, _⟩ := h; rfl) | (obtain ⟨_, _, rfl, _⟩ := h; rfl) | (obtain ⟨_, _, _, rfl, _⟩ := h; rfl) | (obtain ⟨_, _, _, _, rfl, _⟩ := h; rfl) | (obtain ⟨_, _, _, _, _, rfl, _⟩ := h; rfl) | (obtain ⟨_, _, _, _, _, _, rfl, _⟩ := h; rfl) | (obtain ⟨_, _, _, _, _, _, _, rfl, _⟩ := h; rfl) | (obtain ⟨_, _, _, _, _, _, _, _, rfl, _⟩ := h; rfl) | (obtain ⟨_, _, _, _, _, _, _, _, _, rfl, _⟩ := h; rfl) | (obtain ⟨_, _, _, _, _, _, _, _, _, _, rfl, _⟩ := h; rfl) | (obtain ⟨_, _, _, _, _, _, _, _, _, _, _, rfl, _⟩ := h; rfl) | (obtain ⟨_, _, _, _, _, _, _, _, _, _, _, _, rfl, _⟩ := h; rfl) | (obtain ⟨_, _, _, _, _, _, _, _, _, _, _, _, _, rfl, _⟩ := h; rfl) | (obtain ⟨_, _, _, _, _, _, _, _, _, _, _, _, _, _, rfl, _⟩ := h; rfl) | (obtain ⟨_, _, _, _, _, _, _, _, _, _, _, _, _, _, _, rfl, _⟩ := h; rfl) | (obtain ⟨_, _, _, _, _, _, _, _, _, _, _, _, _, _, _, _, rfl, _⟩ := h; rfl) | (obtain ⟨_, _, _, _, _, _, _, _, _, _, _, _, _, _, _, _, _, rfl, _⟩ := h; rfl) | (obtain ⟨_, _, _, _, _, _, _, _, _, _, _, _, _, _, _, _, _, _, rfl, _⟩ := h; rfl) | (obtain ⟨_, _, _, _, _, _, _, _, _, _, _, _, _, _, _, _, _, _, _, rfl, _⟩ := h; rfl) | (obtain ⟨_, _, _, _, _, _, _, _, _, _, _, _, _, _, _, _, _, _, _, _, rfl, _⟩ := h; rfl) | (obtain ⟨_, _, _, _, _, _, _, _, _, _, _, _, _, _, _, _, _, _, _, _, _, rfl, _⟩ := h; rfl) | (obtain ⟨_, _, _, _, _, _, _, _, _, _, _, _, _, _, _, _, _, _, _, _, _, _, rfl, _⟩ := h; rfl) | (obtain ⟨_, _, _, _, _, _, _, _, _, _, _, _, _, _, _, _, _, _, _, _, _, _, _, rfl, _⟩ := h; rfl)) (fun cdv A outer s H vs Q E hr tk pz h => ?_)
  have hu := hr.units
  have hrH := L2H.roomH_of hr
  obtain ⟨n, rfl, h1, h2⟩ := h
  refine ⟨_, (pss_one (ps_if (pt_not (pt_chainA op_le op_le pe_int (pv 0) (T.k_MOST_NODES.elim fun t hm => pe_glob (v := .int 60) rfl hm ⟨t, rfl⟩))) (pss_one (L2N.ps_raise rfl tk (Lk.pmk_own T.x_BadSize (List.cons_ne_nil _ _) hr T.c_BadSize (by exact (pa_cons (pv 0) pa_nil)) rfl))) pss_nil)), ?_⟩
  show (_ : Ends → L2.St → Hp → Prop) _ [some _] _
  try dsimp only [L2H.cxH, cxOf]
  walk_at "w"
  refine w_ite (fun c1 => ?_) (fun c1 => ?_)
  · walk_at "w"
    refine w_iteN (fun c2 => ?_) (fun c2 => ?_)
    · walk_at "w"
      refine ⟨rfl, fun d hd => h1 (fun z => c2 z.2) d _ hd upd_same (Kp.refl.new hd)⟩
    · walk_at "w"
      exact h2 c1 c2
  · walk_at "w"
    refine ⟨rfl, fun d hd => h1 (fun z => c1 z.1) d _ hd upd_same (Kp.refl.new hd)⟩
theorem sc_check_operation : FnScope ["size", "operation", "index"] ["size", "operation", "index"] (defScope s_check_operation) := ⟨rfl, rfl, rfl, by decide +kernel, rfl, by decide +kernel, by decide +kernel⟩
theorem ok_check_operation {P : Program} {w : World} {K : PySem.W.Frag} {mg : Str → Option Value} {base : Heap} {a : AD} (T : Txt P K mg a) : FnA P w K mg base 2 a.f_check_operation ["size", "operation", "index"] (sp_check_operation a) := by
  obtain ⟨fd, F, b⟩ := T.F_check_operation
  refine FnA.of F sc_check_operation b (fun vs H Q E h => by first | (obtain ⟨rfl, _⟩ := h; rfl) | (obtain ⟨_, rfl, _⟩ := h; rfl) | (obtain ⟨_, _, rfl, _⟩ := h; rfl) | (obtain ⟨_, _, _, rfl, _⟩ := h; rfl) | (obtain ⟨_, _, _, _, rfl, _⟩ := h; rfl) | (obtain ⟨_, _, _, _, _, rfl, _⟩ := h; rfl) | (obtain ⟨_, _, _, _, _, _, rfl, _⟩ := h; rfl) | (obtain ⟨_, _, _, _, _, _, _, rfl, _⟩ := h; rfl) | (obtain ⟨_, _, _, _, _, _, _, _, rfl, _⟩ := h; rfl) | (obtain ⟨_, _, _, _, _, _, _, _, _, rfl, _⟩ := h; rfl) | (obtain ⟨_, _, _, _, _, _, _, _, _, _, rfl, _⟩ := h; rfl) | (obtain ⟨_, _, _, _, _, _, _, _, _, _, _, rfl, _⟩ := h; rfl) | (obtain ⟨_, _, _, _, _, _, _, _, _, _, _, _, rfl, _⟩ := h; rfl) | (obtain ⟨_, _, _, _, _, _, _, _, _, _, _, _, _, rfl, _⟩ := h; rfl) | (obtain ⟨_, _, _, _, _, _, _, _, _, _, _, _, _, _, rfl, _⟩ := h; rfl) | (obtain ⟨_, _, _, _, _, _, _, _, _, _, _, _, _, _, _, rfl, _⟩ := h; rfl) | (obtain ⟨_, _, _, _, _, _, _, _, _, _, _, _, _, _, _, _, rfl, _⟩ := h; rfl) | (obtain ⟨_, _, _, _, _, _, _, _, _, _, _, _, _, _, _, _, _, rfl, _⟩ := h; rfl) | (obtain ⟨_, _, _, _, _, _, _, _, _, _, _, _, _, _, _, _, _, _, rfl, _⟩ := h; rfl) | (obtain ⟨_, _, _, _, _, _, _, _, _, _, _, _, _, _, _, _, _, _, _, rfl, _⟩ := h; rfl) | (obtain ⟨_, _, _, _, _, _, _, _, _, _, _, _, _, _, _, _, _, _, _, _, rfl, _⟩ := h; rfl) | (obtain ⟨_, _, _, _, _, _, _, _, _, _, _, _, _, _, _, _, _, _, _, _, _, rfl, _⟩ := h; rfl) | (obtain ⟨_, _, _, _, _, _, _, _, _, _, _, _, _, _, _, _, _, _, _, _, _, _, rfl, _⟩ := h; rfl) | (obtain ⟨_, _, _, _, _, _, _, _, _, _, _, _, _, _, _, _, _, _, _, _, _, _, _, rfl, _⟩ := h; rfl)) (fun cdv A outer s H vs Q E hr tk pz h => ?_)
  have hu := hr.units
  have hrH := L2H.roomH_of hr
  obtain ⟨n, o, i, rfl, h1, h2⟩ := h
  refine ⟨_, (pss_one (ps_if (PW.pt (pw_or (pt_cmpA (o_eq hu) (pv 1) pe_int (nomark _)) (pw_or1 (pt_cmpA op_gt (pe_callB (b_abs) rfl T.b_abs (by decide +kernel) (pa_cons (pv 1) pa_nil)) (pv 0) (nomark _))))) (pss_one (L2N.ps_raise rfl tk (Lk.pmk_own T.x_BadOperation (List.cons_ne_nil _ _) hr T.c_BadOperation (by exact (pa_cons (pv 1) (pa_cons (pv 2) pa_nil))) rfl))) pss_nil)), ?_⟩
  show (_ : Ends → L2.St → Hp → Prop) _ [some _, some _, some _] _
  try dsimp only [L2H.cxH, cxOf]
  walk_at "w"
  refine w_ite (fun c1 => ?_) (fun c1 => ?_)
  · walk_at "w"
    refine ⟨rfl, fun d hd => h1 (fun z => z.1 c1) d _ hd upd_same (Kp.refl.new hd)⟩
  · walk_at "w"
    refine w_ite (fun c2 => ?_) (fun c2 => ?_)
    · walk_at "w"
      refine ⟨rfl, fun d hd => h1 (fun z => by have := z.2; omega) d _ hd upd_same (Kp.refl.new hd)⟩
    · walk_at "w"
      exact h2 ⟨c1, by omega⟩
def sp_check_gap (a : AD) : Sp := fun vs H Q E => ∃ n g : Int, vs = [.int n, .int g] ∧ (¬(0 ≤ g ∧ g ≤ n) → xBadGap a (.int g) E H) ∧ (0 ≤ g → g ≤ n → Q .non H)
theorem sc_check_gap : FnScope ["size", "gap"] ["size", "gap"] (defScope s_check_gap) := ⟨rfl, rfl, rfl, by decide +kernel, rfl, by decide +kernel, by decide +kernel⟩
theorem ok_check_gap {P : Program} {w : World} {K : PySem.W.Frag} {mg : Str → Option Value} {base : Heap} {a : AD} (T : Txt P K mg a) : FnA P w K mg base 2 a.f_check_gap ["size", "gap"] (sp_check_gap a) := by
  obtain ⟨fd, F, b⟩ := T.F_check_gap
  refine FnA.of F sc_check_gap b (fun vs H Q E h => by first | (obtain ⟨rfl, _⟩ := h; rfl) | (obtain ⟨_, rfl, _⟩ := h; rfl) | (obtain ⟨_, _, rfl, _⟩ := h; rfl) | (obtain ⟨_, _, _, rfl, _⟩ := h; rfl) | (obtain ⟨_, _, _, _, rfl, _⟩ := h; rfl) | (obtain ⟨_, _, _, _, _, rfl, _⟩ := h; rfl) | (obtain ⟨_, _, _, _, _, _, rfl, _⟩ := h; rfl) | (obtain ⟨_, _, _, _, _, _, _, rfl, _⟩ := h; rfl) | (obtain ⟨_, _, _, _, _, _, _, _, rfl, _⟩ := h; rfl) | (obtain ⟨_, _, _, _, _, _, _, _, _, rfl, _⟩ := h; rfl) | (obtain ⟨_, _, _, _, _, _, _, _, _, _, rfl, _⟩ := h; rfl) | (obtain ⟨_, _, _, _, _, _, _, _, _, _, _, rfl, _⟩ := h; rfl) | (obtain ⟨_, _, _, _, _, _, _, _, _, _, _, _, rfl, _⟩ := h; rfl) | (obtain ⟨_, _, _, _, _, _, _, _, _, _, _, _, _, rfl, _⟩ := h; rfl) | (obtain ⟨_, _, _, _, _, _, _, _, _, _, _, _, _, _, rfl, _⟩ := h; rfl) | (obtain ⟨_, _, _, _, _, _, _, _, _, _, _, _, _, _, _, rfl, _⟩ := h; rfl) | (obtain ⟨_, _, _, _, _, _, _, _, _, _, _, _, _, _, _, _, rfl, _⟩ := h; rfl) | (obtain ⟨_, _, _, _, _, _, _, _, _, _, _, _, _, _, _, _, _, rfl, _⟩ := h; rfl) | (obtain ⟨_, _, _, _, _, _, _, _, _, _, _, _, _, _, _, _, _, _, rfl, _⟩ := h; rfl) | (obtain ⟨_, _, _, _, _, _, _, _, _, _, _, _, _, _, _, _, _, _, _, rfl, _⟩ := h; rfl) | (obtain ⟨_, _, _, _, _, _, _, _, _, _, _, _, _, _, _, _, _, _, _, _, rfl, _⟩ := h; rfl) | (obtain ⟨_, _, _, _, _, _, _, _, _, _, _, _, _, _, _, _, _, _, _, _, _, rfl, _⟩ := h; rfl) | (obtain ⟨_, _, _, _, _, _, _, _, _, _, _, _, _, _, _, _, _, _, _, _, _, _, rfl, _⟩ := h; rfl) | (obtain ⟨_, _, _, _, _, _, _, _, _, _, _, _, _, _, _, _, _, _, _, _, _, _, _, rfl, _⟩ := h; rfl)) (fun cdv A outer s H vs Q E hr tk pz h => ?_)
  have hu := hr.units
  have hrH := L2H.roomH_of hr
  obtain ⟨n, g, rfl, h1, h2⟩ := h
  refine ⟨_, (pss_one (ps_if (pt_not (pt_chainA op_le op_le pe_int (pv 1) (pv 0))) (pss_one (L2N.ps_raise rfl tk (Lk.pmk_own T.x_BadGap (List.cons_ne_nil _ _) hr T.c_BadGap (by exact (pa_cons (pv 1) pa_nil)) rfl))) pss_nil)), ?_⟩
  show (_ : Ends → L2.St → Hp → Prop) _ [some _, some _] _
  try dsimp only [L2H.cxH, cxOf]
  walk_at "w"
  refine w_ite (fun c1 => ?_) (fun c1 => ?_)
  · walk_at "w"
    refine w_iteN (fun c2 => ?_) (fun c2 => ?_)
    · walk_at "w"
      refine ⟨rfl, fun d hd => h1 (fun z => c2 z.2) d _ hd upd_same (Kp.refl.new hd)⟩
    · walk_at "w"
      exact h2 c1 c2
  · walk_at "w"
    refine ⟨rfl, fun d hd => h1 (fun z => c1 z.1) d _ hd upd_same (Kp.refl.new hd)⟩
/-! ### a Links object -/
/-- the object at x, its three lists at l, r, f -/
def Lnk (a : AD) (H : Hp) (x l r f : Addr) (n : Int) (L R : List Int) (F : List Bool) : Prop :=
  (∃ dx, H x = some (.ins a.Links dx [("size", .int n), ("_lefts", .ref l), ("_rights", .ref r), ("_flags", .ref f)])) ∧ H l = some (.lst (L.map V.int)) ∧ H r = some (.lst (R.map V.int)) ∧ H f = some (.lst (F.map V.bl)) ∧ l ≠ r ∧ l ≠ f ∧ r ≠ f
theorem Lnk.kp {a : AD} {ms : List Addr} {H H' : Hp} {x l r f : Addr} {n : Int} {L R : List Int} {F : List Bool} (h : Lnk a H x l r f n L R F) (k : Kp ms H H') (hx : x ∉ ms) (hl : l ∉ ms) (hr : r ∉ ms) (hf : f ∉ ms) : Lnk a H' x l r f n L R F := by
  obtain ⟨⟨dx, h1⟩, h2, h3, h4, h5⟩ := h
  exact ⟨⟨dx, k.at h1 hx⟩, k.at h2 hl, k.at h3 hr, k.at h4 hf, h5⟩
theorem Lnk.kp0 {a : AD} {H H' : Hp} {x l r f : Addr} {n : Int} {L R : List Int} {F : List Bool} (h : Lnk a H x l r f n L R F) (k : Kp [] H H') : Lnk a H' x l r f n L R F := h.kp k List.not_mem_nil List.not_mem_nil List.not_mem_nil List.not_mem_nil
def sp_Links_left (a : AD) : Sp := fun vs H Q E => ∃ (x l r f : Addr) (n v : Int) (L R : List Int) (F : List Bool), vs = [.ref x, .int v] ∧ Lnk a H x l r f n L R F ∧ L.length = (n + 2).toNat ∧ (¬(1 ≤ v ∧ v ≤ n + 1) → xBadNode a (.int v) E H) ∧ (1 ≤ v → v ≤ n + 1 → Q (.int (L.getD v.toNat default)) H)
theorem sc_Links_left : FnScope ["self", "node"] ["self", "node"] (defScope s_Links_left) := ⟨rfl, rfl, rfl, by decide +kernel, rfl, by decide +kernel, by decide +kernel⟩
theorem ok_Links_left {P : Program} {w : World} {K : PySem.W.Frag} {mg : Str → Option Value} {base : Heap} {a : AD} (T : Txt P K mg a) : FnA P w K mg base 2 a.f_Links_left ["self", "node"] (sp_Links_left a) := by
  obtain ⟨fd, F, b⟩ := T.F_Links_left
  refine FnA.of F sc_Links_left b (fun vs H Q E h => by first | (obtain ⟨rfl, _⟩ := h; rfl) | (obtain ⟨_, rfl, _⟩ := h; rfl) | (obtain ⟨_, _, rfl, _⟩ := h; rfl) | (obtain ⟨_, _, _, rfl, _⟩ := h; rfl) | (obtain ⟨_, _, _, _, rfl, _⟩ := h; rfl) | (obtain ⟨_, _, _, _, _, rfl, _⟩ := h; rfl) | (obtain ⟨_, _, _, _, _, _, rfl, _⟩ := h; rfl) | (obtain ⟨_, _, _, _, _, _, _, rfl, _⟩ := h; rfl) | (obtain ⟨_, _, _, _, _, _, _, _, rfl, _⟩ := h; rfl) | (obtain ⟨_, _, _, _, _, _, _, _, _, rfl, _⟩ := h; rfl) | (obtain ⟨_, _, _, _, _, _, _, _, _, _, rfl, _⟩ := h; rfl) | (obtain ⟨_, _, _, _, _, _, _, _, _, _, _, rfl, _⟩ := h; rfl) | (obtain ⟨_, _, _, _, _, _, _, _, _, _, _, _, rfl, _⟩ := h; rfl) | (obtain ⟨_, _, _, _, _, _, _, _, _, _, _, _, _, rfl, _⟩ := h; rfl) | (obtain ⟨_, _, _, _, _, _, _, _, _, _, _, _, _, _, rfl, _⟩ := h; rfl) | (obtain ⟨_, _, _, _, _, _, _, _, _, _, _, _, _, _, _, rfl, _⟩ := h; rfl) | (obtain ⟨_, _, _, _, _, _, _, _, _, _, _, _, _, _, _, _, rfl, _⟩ := h; rfl) | (obtain ⟨_, _, _, _, _, _, _, _, _, _, _, _, _, _, _, _, _, rfl, _⟩ := h; rfl) | (obtain ⟨_, _, _, _, _, _, _, _, _, _, _, _, _, _, _, _, _, _, rfl, _⟩ := h; rfl) | (obtain ⟨_, _, _, _, _, _, _, _, _, _, _, _, _, _, _, _, _, _, _, rfl, _⟩ := h; rfl) | (obtain ⟨_, _, _, _, _, _, _, _, _, _, _, _, _, _, _, _, _, _, _, _, rfl, _⟩ := h; rfl) | (obtain ⟨_, _, _, _, _, _, _, _, _, _, _, _, _, _, _, _, _, _, _, _, _, rfl, _⟩ := h; rfl) | (obtain ⟨_, _, _, _, _, _, _, _, _, _, _, _, _, _, _, _, _, _, _, _, _, _, rfl, _⟩ := h; rfl) | (obtain ⟨_, _, _, _, _, _, _, _, _, _, _, _, _, _, _, _, _, _, _, _, _, _, _, rfl, _⟩ := h; rfl)) (fun cdv A outer s H vs Q E hr tk pz h => ?_)
  have hu := hr.units
  have hrH := L2H.roomH_of hr
  obtain ⟨x, l, r, f, n, v, L, R, F, rfl, ⟨⟨dx, hx⟩, hl, hr', hf, _⟩, hL, h1, h2⟩ := h
  refine ⟨_, (pss_cons (ps_if (pt_not (pt_chainA op_le op_le pe_int (pv 1) (pe_op o_add (pe_fld (pv 0) rfl) pe_int))) (pss_one (L2N.ps_raise rfl tk (Lk.pmk_own T.x_BadNode (List.cons_ne_nil _ _) hr T.c_BadNode (by exact (pa_cons (pv 1) pa_nil)) rfl))) pss_nil)
      (pss_one (ps_ret (pe_ix ix_seq (pe_fld (pv 0) rfl) (pv 1) (fun _ _ => rfl))))), ?_⟩
  show (_ : Ends → L2.St → Hp → Prop) _ [some _, some _] _
  try dsimp only [L2H.cxH, cxOf]
  walk_at "w"
  refine w_ite (fun c1 => ?_) (fun c1 => ?_)
  · walk_at "w"
    refine w_iteN (fun c2 => ?_) (fun c2 => ?_)
    · walk_at "w"
      refine ⟨rfl, fun d hd => h1 (fun z => c2 z.2) d _ hd upd_same (Kp.refl.new hd)⟩
    · walk_at "w"
      exact h2 c1 c2
  · walk_at "w"
    refine ⟨rfl, fun d hd => h1 (fun z => c1 z.1) d _ hd upd_same (Kp.refl.new hd)⟩
def sp_Links_right (a : AD) : Sp := fun vs H Q E => ∃ (x l r f : Addr) (n v : Int) (L R : List Int) (F : List Bool), vs = [.ref x, .int v] ∧ Lnk a H x l r f n L R F ∧ R.length = (n + 2).toNat ∧ (¬(0 ≤ v ∧ v ≤ n) → xBadNode a (.int v) E H) ∧ (0 ≤ v → v ≤ n → Q (.int (R.getD v.toNat default)) H)
theorem sc_Links_right : FnScope ["self", "node"] ["self", "node"] (defScope s_Links_right) := ⟨rfl, rfl, rfl, by decide +kernel, rfl, by decide +kernel, by decide +kernel⟩
theorem ok_Links_right {P : Program} {w : World} {K : PySem.W.Frag} {mg : Str → Option Value} {base : Heap} {a : AD} (T : Txt P K mg a) : FnA P w K mg base 2 a.f_Links_right ["self", "node"] (sp_Links_right a) := by
  obtain ⟨fd, F, b⟩ := T.F_Links_right
  refine FnA.of F sc_Links_right b (fun vs H Q E h => by first | (obtain ⟨rfl, _⟩ := h; rfl) | (obtain ⟨_, rfl, _⟩ := h; rfl) | (obtain ⟨_, _, rfl, _⟩ := h; rfl) | (obtain ⟨_, _, _, rfl, _⟩ := h; rfl) | (obtain ⟨_, _, _, _, rfl, _⟩ := h; rfl) | (obtain ⟨_, _, _, _, _, rfl, _⟩ := h; rfl) | (obtain ⟨_, _, _, _, _, _, rfl, _⟩ := h; rfl) | (obtain ⟨_, _, _, _, _, _, _, rfl, _⟩ := h; rfl) | (obtain ⟨_, _, _, _, _, _, _, _, rfl, _⟩ := h; rfl) | (obtain ⟨_, _, _, _, _, _, _, _, _, rfl, _⟩ := h; rfl) | (obtain ⟨_, _, _, _, _, _, _, _, _, _, rfl, _⟩ := h; rfl) | (obtain ⟨_, _, _, _, _, _, _, _, _, _, _, rfl, _⟩ := h; rfl) | (obtain ⟨_, _, _, _, _, _, _, _, _, _, _, _, rfl, _⟩ := h; rfl) | (obtain ⟨_, _, _, _, _, _, _, _, _, _, _, _, _, rfl, _⟩ := h; rfl) | (obtain ⟨_, _, _, _, _, _, _, _, _, _, _, _, _, _, rfl, _⟩ := h; rfl) | (obtain ⟨_, _, _, _, _, _, _, _, _, _, _, _, _, _, _, rfl, _⟩ := h; rfl) | (obtain ⟨_, _, _, _, _, _, _, _, _, _, _, _, _, _, _, _, rfl, _⟩ := h; rfl) | (obtain ⟨_, _, _, _, _, _, _, _, _, _, _, _, _, _, _, _, _, rfl, _⟩ := h; rfl) | (obtain ⟨_, _, _, _, _, _, _, _, _, _, _, _, _, _, _, _, _, _, rfl, _⟩ := h; rfl) | (obtain ⟨_, _, _, _, _, _, _, _, _, _, _, _, _, _, _, _, _, _, _, rfl, _⟩ := h; rfl) | (obtain ⟨_, _, _, _, _, _, _, _, _, _, _, _, _, _, _, _, _, _, _, _, rfl, _⟩ := h; rfl) | (obtain ⟨_, _, _, _, _, _, _, _, _, _, _, _, _, _, _, _, _, _, _, _, _, rfl, _⟩ := h; rfl) | (obtain ⟨_, _, _, _, _, _, _, _, _, _, _, _, _, _, _, _, _, _, _, _, _, _, rfl, _⟩ := h; rfl) | (obtain ⟨_, _, _, _, _, _, _, _, _, _, _, _, _, _, _, _, _, _, _, _, _, _, _, rfl, _⟩ := h; rfl)) (fun cdv A outer s H vs Q E hr tk pz h => ?_)
  have hu := hr.units
  have hrH := L2H.roomH_of hr
  obtain ⟨x, l, r, f, n, v, L, R, F, rfl, ⟨⟨dx, hx⟩, hl, hr', hf, _⟩, hL, h1, h2⟩ := h
  refine ⟨_, (pss_cons (ps_if (pt_not (pt_chainA op_le op_le pe_int (pv 1) (pe_fld (pv 0) rfl))) (pss_one (L2N.ps_raise rfl tk (Lk.pmk_own T.x_BadNode (List.cons_ne_nil _ _) hr T.c_BadNode (by exact (pa_cons (pv 1) pa_nil)) rfl))) pss_nil)
      (pss_one (ps_ret (pe_ix ix_seq (pe_fld (pv 0) rfl) (pv 1) (fun _ _ => rfl))))), ?_⟩
  show (_ : Ends → L2.St → Hp → Prop) _ [some _, some _] _
  try dsimp only [L2H.cxH, cxOf]
  walk_at "w"
  refine w_ite (fun c1 => ?_) (fun c1 => ?_)
  · walk_at "w"
    refine w_iteN (fun c2 => ?_) (fun c2 => ?_)
    · walk_at "w"
      refine ⟨rfl, fun d hd => h1 (fun z => c2 z.2) d _ hd upd_same (Kp.refl.new hd)⟩
    · walk_at "w"
      exact h2 c1 c2
  · walk_at "w"
    refine ⟨rfl, fun d hd => h1 (fun z => c1 z.1) d _ hd upd_same (Kp.refl.new hd)⟩
/-- the object after an operation on v: low and high its neighbours -/
def apR (L R : List Int) (o : Int) : List Int := R.set (L.getD o.natAbs default).toNat (if o < 0 then R.getD o.natAbs default else (o.natAbs : Int))
def apL (L R : List Int) (o : Int) : List Int := L.set (R.getD o.natAbs default).toNat (if o < 0 then L.getD o.natAbs default else (o.natAbs : Int))
def apF (F : List Bool) (o : Int) : List Bool := F.set o.natAbs (decide (o < 0))
def sp_Links_apply_at (a : AD) : Sp := fun vs H Q E => ∃ (x l r f : Addr) (n o i : Int) (L R : List Int) (F : List Bool), vs = [.ref x, .int o, .int i] ∧ Lnk a H x l r f n L R F ∧ L.length = (n + 2).toNat ∧ R.length = (n + 2).toNat ∧ F.length = (n + 2).toNat ∧
  (¬IsOp n o → xBadOperation a (.int o) (.int i) E H) ∧ (IsOp n o → F.getD o.natAbs default = decide (o < 0) → xIllegal a (.int o) (.int i) E H) ∧
  (IsOp n o → F.getD o.natAbs default ≠ decide (o < 0) → 0 ≤ L.getD o.natAbs default ∧ L.getD o.natAbs default < n + 2 ∧ 0 ≤ R.getD o.natAbs default ∧ R.getD o.natAbs default < n + 2 ∧ ∀ H', Lnk a H' x l r f n (apL L R o) (apR L R o) (apF F o) → Kp [l, r, f] H H' → Q .non H')
theorem sc_Links_apply_at : FnScope ["self", "operation", "index", "node", "is_unlink", "low", "high"] ["self", "operation", "index"] (defScope s_Links_apply_at) := ⟨rfl, rfl, rfl, by decide +kernel, rfl, by decide +kernel, by decide +kernel⟩
theorem ok_Links_apply_at {P : Program} {w : World} {K : PySem.W.Frag} {mg : Str → Option Value} {base : Heap} {a : AD} (T : Txt P K mg a) (G_check_operation : FnA P w K mg base 2 a.f_check_operation ["size", "operation", "index"] (sp_check_operation a)) : FnA P w K mg base 3 a.f_Links_apply_at ["self", "operation", "index"] (sp_Links_apply_at a) := by
  obtain ⟨fd, F, b⟩ := T.F_Links_apply_at
  refine FnA.of F sc_Links_apply_at b (fun vs H Q E h => by first | (obtain ⟨rfl, _⟩ := h; rfl) | (obtain ⟨_, rfl, _⟩ := h; rfl) | (obtain ⟨_, _, rfl, _⟩ := h; rfl) | (obtain ⟨_, _, _, rfl, _⟩ := h; rfl) | (obtain ⟨_, _, _, _, rfl, _⟩ := h; rfl) | (obtain ⟨_, _, _, _, _, rfl, _⟩ := h; rfl) | (obtain ⟨_, _, _, _, _, _, rfl, _⟩ := h; rfl) | (obtain ⟨_, _, _, _, _, _, _, rfl, _⟩ := h; rfl) | (obtain ⟨_, _, _, _, _, _, _, _, rfl, _⟩ := h; rfl) | (obtain ⟨_, _, _, _, _, _, _, _, _, rfl, _⟩ := h; rfl) | (obtain ⟨_, _, _, _, _, _, _, _, _, _, rfl, _⟩ := h; rfl) | (obtain ⟨_, _, _, _, _, _, _, _, _, _, _, rfl, _⟩ := h; rfl) | (obtain ⟨_, _, _, _, _, _, _, _, _, _, _, _, rfl, _⟩ := h; rfl) | (obtain ⟨_, _, _, _, _, _, _, _, _, _, _, _, _, rfl, _⟩ := h; rfl) | (obtain ⟨_, _, _, _, _, _, _, _, _, _, _, _, _, _, rfl, _⟩ := h; rfl) | (obtain ⟨_, _, _, _, _, _, _, _, _, _, _, _, _, _, _, rfl, _⟩ := h; rfl) | (obtain ⟨_, _, _, _, _, _, _, _, _, _, _, _, _, _, _, _, rfl, _⟩ := h; rfl) | (obtain ⟨_, _, _, _, _, _, _, _, _, _, _, _, _, _, _, _, _, rfl, _⟩ := h; rfl) | (obtain ⟨_, _, _, _, _, _, _, _, _, _, _, _, _, _, _, _, _, _, rfl, _⟩ := h; rfl) | (obtain ⟨_, _, _, _, _, _, _, _, _, _, _, _, _, _, _, _, _, _, _, rfl, _⟩ := h; rfl) | (obtain ⟨_, _, _, _, _, _, _, _, _, _, _, _, _, _, _, _, _, _, _, _, rfl, _⟩ := h; rfl) | (obtain ⟨_, _, _, _, _, _, _, _, _, _, _, _, _, _, _, _, _, _, _, _, _, rfl, _⟩ := h; rfl) | (obtain ⟨_, _, _, _, _, _, _, _, _, _, _, _, _, _, _, _, _, _, _, _, _, _, rfl, _⟩ := h; rfl) | (obtain ⟨_, _, _, _, _, _, _, _, _, _, _, _, _, _, _, _, _, _, _, _, _, _, _, rfl, _⟩ := h; rfl)) (fun cdv A outer s H vs Q E hr tk pz h => ?_)
  have hu := hr.units
  have hrH := L2H.roomH_of hr
  obtain ⟨x, l, r, f, n, o, i, L, R, F, rfl, ⟨⟨dx, hx⟩, hl, hr', hf, hlr, hlf, hrf⟩, hL, hR, hF, h1, h2, h3⟩ := h
  refine ⟨_, (pss_cons (ps_expr (pe_callA G_check_operation (Room.mono hr (by decide)) T.n_check_operation tk (pa_cons (pe_fld (pv 0) rfl) (pa_cons (pv 1) (pa_cons (pv 2) pa_nil)))))
      (pss_cons (ps_set (i := 3) sc_Links_apply_at.nd rfl (Or.inl rfl) (pe_callB (b_abs) rfl T.b_abs (by decide +kernel) (pa_cons (pv 1) pa_nil)))
      (pss_cons (ps_set (i := 4) sc_Links_apply_at.nd rfl (Or.inl rfl) (pe_cmpR op_lt (pv 1) pe_int (nomark _)))
      (pss_cons (ps_if (pt_cmpA (o_eq hu) (pe_ix ix_seq (pe_fld (pv 0) rfl) (pv 3) (fun _ _ => rfl)) (pv 4) (nomark _)) (pss_one (L2N.ps_raise rfl tk (Lk.pmk_own T.x_Illegal (List.cons_ne_nil _ _) hr T.c_Illegal (by exact (pa_cons (pv 1) (pa_cons (pv 2) pa_nil))) rfl))) pss_nil)
      (pss_cons (ps_set (i := 5) sc_Links_apply_at.nd rfl (Or.inl rfl) (pe_ix ix_seq (pe_fld (pv 0) rfl) (pv 3) (fun _ _ => rfl)))
      (pss_cons (ps_set (i := 6) sc_Links_apply_at.nd rfl (Or.inl rfl) (pe_ix ix_seq (pe_fld (pv 0) rfl) (pv 3) (fun _ _ => rfl)))
      (pss_cons (ps_asg (pe_ifExp (pt_tru (pv 4)) (pv 6) (pv 3)) (pg_sub (pe_fld (pv 0) rfl) (pv 5) set_list))
      (pss_cons (ps_asg (pe_ifExp (pt_tru (pv 4)) (pv 5) (pv 3)) (pg_sub (pe_fld (pv 0) rfl) (pv 6) set_list))
      (pss_one (ps_asg (pv 4) (pg_sub (pe_fld (pv 0) rfl) (pv 3) set_list))))))))))), ?_⟩
  show (_ : Ends → L2.St → Hp → Prop) _ [some _, some _, some _, none, none, none, none] _
  try dsimp only [L2H.cxH, cxOf]
  walk_at "w"
  refine ⟨n, o, i, rfl, h1, fun hop => ?_⟩
  have hop2 := hop.2
  walk_at "w"
  refine w_ite (fun c1 => ?_) (fun c1 => ?_)
  · walk_at "w"
    exact ⟨rfl, fun d hd => h2 hop c1 d _ hd upd_same (Kp.refl.new hd)⟩
  · obtain ⟨b1, b2, b3, b4, k⟩ := h3 hop c1
    have n1 : x ≠ l := ne_of hx hl (by intro z; cases z)
    have n2 : x ≠ r := ne_of hx hr' (by intro z; cases z)
    have n3 : x ≠ f := ne_of hx hf (by intro z; cases z)
    walk_at "w"
    simp only [Int.toNat_natCast]
    unfold apL apR apF at k
    refine w_ite (fun c2 => ?_) (fun c2 => ?_)
    · rw [if_pos c2, if_pos c2] at k
      walk_at "w"
      exact k _ ⟨⟨dx, by walk_at "hp"⟩, by walk_at "hp", by walk_at "hp", upd_same, hlr, hlf, hrf⟩ (((Kp.refl.mut (by simp)).mut (by simp)).mut (by simp))
    · rw [if_neg c2, if_neg c2] at k
      walk_at "w"
      exact k _ ⟨⟨dx, by walk_at "hp"⟩, by walk_at "hp", by walk_at "hp", upd_same, hlr, hlf, hrf⟩ (((Kp.refl.mut (by simp)).mut (by simp)).mut (by simp))
/-- an operation, at place i -/
def apSp (a : AD) (x l r f : Addr) (n o i : Int) (L R : List Int) (F : List Bool) (H : Hp) (Q : VK) (E : XK) : Prop := Lnk a H x l r f n L R F ∧ L.length = (n + 2).toNat ∧ R.length = (n + 2).toNat ∧ F.length = (n + 2).toNat ∧
  (¬IsOp n o → xBadOperation a (.int o) (.int i) E H) ∧ (IsOp n o → F.getD o.natAbs default = decide (o < 0) → xIllegal a (.int o) (.int i) E H) ∧
  (IsOp n o → F.getD o.natAbs default ≠ decide (o < 0) → 0 ≤ L.getD o.natAbs default ∧ L.getD o.natAbs default < n + 2 ∧ 0 ≤ R.getD o.natAbs default ∧ R.getD o.natAbs default < n + 2 ∧ ∀ H', Lnk a H' x l r f n (apL L R o) (apR L R o) (apF F o) → Kp [l, r, f] H H' → Q .non H')
def sp_Links_apply (a : AD) : Sp := fun vs H Q E => ∃ (x l r f : Addr) (n o : Int) (L R : List Int) (F : List Bool), vs = [.ref x, .int o] ∧ apSp a x l r f n o 0 L R F H Q E
/-- a new object -/
def sp_Links___init__ (a : AD) : Sp := fun vs H Q E => ∃ (x dx : Addr) (n : Int), vs = [.ref x, .int n] ∧ H x = some (.ins a.Links dx []) ∧ (¬(0 ≤ n ∧ n ≤ 60) → xBadSize a (.int n) E H) ∧
  (0 ≤ n → n ≤ 60 → ∀ (l r f : Addr) (H' : Hp), H l = none → H r = none → H f = none → Lnk a H' x l r f n (rgI (-1) (n + 1)) (rgI 1 (n + 3)) (List.replicate (n + 2).toNat false) → Kp [x] H H' → Q .non H')
theorem sc_Links___init__ : FnScope ["self", "size"] ["self", "size"] (defScope s_Links___init__) := ⟨rfl, rfl, rfl, by decide +kernel, rfl, by decide +kernel, by decide +kernel⟩
theorem ok_Links___init__ {P : Program} {w : World} {K : PySem.W.Frag} {mg : Str → Option Value} {base : Heap} {a : AD} (T : Txt P K mg a) (G_check_size : FnA P w K mg base 2 a.f_check_size ["size"] (sp_check_size a)) : FnA P w K mg base 3 a.f_Links___init__ ["self", "size"] (sp_Links___init__ a) := by
  obtain ⟨fd, F, b⟩ := T.F_Links___init__
  refine FnA.of F sc_Links___init__ b (fun vs H Q E h => by first | (obtain ⟨rfl, _⟩ := h; rfl) | (obtain ⟨_, rfl, _⟩ := h; rfl) | (obtain ⟨_, _, rfl, _⟩ := h; rfl) | (obtain ⟨_, _, _, rfl, _⟩ := h; rfl) | (obtain ⟨_, _, _, _, rfl, _⟩ := h; rfl) | (obtain ⟨_, _, _, _, _, rfl, _⟩ := h; rfl) | (obtain ⟨_, _, _, _, _, _, rfl, _⟩ := h; rfl) | (obtain ⟨_, _, _, _, _, _, _, rfl, _⟩ := h; rfl) | (obtain ⟨_, _, _, _, _, _, _, _, rfl, _⟩ := h; rfl) | (obtain ⟨_, _, _, _, _, _, _, _, _, rfl, _⟩ := h; rfl) | (obtain ⟨_, _, _, _, _, _, _, _, _, _, rfl, _⟩ := h; rfl) | (obtain ⟨_, _, _, _, _, _, _, _, _, _, _, rfl, _⟩ := h; rfl) | (obtain ⟨_, _, _, _, _, _, _, _, _, _, _, _, rfl, _⟩ := h; rfl) | (obtain ⟨_, _, _, _, _, _, _, _, _, _, _, _, _, rfl, _⟩ := h; rfl) | (obtain ⟨_, _, _, _, _, _, _, _, _, _, _, _, _, _, rfl, _⟩ := h; rfl) | (obtain ⟨_, _, _, _, _, _, _, _, _, _, _, _, _, _, _, rfl, _⟩ := h; rfl) | (obtain ⟨_, _, _, _, _, _, _, _, _, _, _, _, _, _, _, _, rfl, _⟩ := h; rfl) | (obtain ⟨_, _, _, _, _, _, _, _, _, _, _, _, _, _, _, _, _, rfl, _⟩ := h; rfl) | (obtain ⟨_, _, _, _, _, _, _, _, _, _, _, _, _, _, _, _, _, _, rfl, _⟩ := h; rfl) | (obtain ⟨_, _, _, _, _, _, _, _, _, _, _, _, _, _, _, _, _, _, _, rfl, _⟩ := h; rfl) | (obtain ⟨_, _, _, _, _, _, _, _, _, _, _, _, _, _, _, _, _, _, _, _, rfl, _⟩ := h; rfl) | (obtain ⟨_, _, _, _, _, _, _, _, _, _, _, _, _, _, _, _, _, _, _, _, _, rfl, _⟩ := h; rfl) | (obtain ⟨_, _, _, _, _, _, _, _, _, _, _, _, _, _, _, _, _, _, _, _, _, _, rfl, _⟩ := h; rfl) | (obtain ⟨_, _, _, _, _, _, _, _, _, _, _, _, _, _, _, _, _, _, _, _, _, _, _, rfl, _⟩ := h; rfl)) (fun cdv A outer s H vs Q E hr tk pz h => ?_)
  have hu := hr.units
  have hrH := L2H.roomH_of hr
  obtain ⟨x, dx, n, rfl, hx, h1, h2⟩ := h
  refine ⟨_, (pss_cons (ps_expr (pe_callA G_check_size (Room.mono hr (by decide)) T.n_check_size tk (pa_cons (pv 1) pa_nil)))
      (pss_cons (ps_fld (pv 0) (pv 1) rfl)
      (pss_cons (ps_fld (pv 0) (pe_listRg rfl rfl T.b_list (prg_2 rfl T.b_range (pe_un un_neg pe_int) (pe_op o_add (pv 1) pe_int))) rfl)
      (pss_cons (ps_fld (pv 0) (pe_listRg rfl rfl T.b_list (prg_2 rfl T.b_range pe_int (pe_op o_add (pv 1) pe_int))) rfl)
      (pss_one (ps_fld (pv 0) (pe_op o_mul (pe_lst (pa_cons pe_bl pa_nil)) (pe_op o_add (pv 1) pe_int)) rfl)))))), ?_⟩
  show (_ : Ends → L2.St → Hp → Prop) _ [some _, some _] _
  try dsimp only [L2H.cxH, cxOf]
  walk_at "w"
  refine ⟨n, rfl, h1, fun n0 n1 => ?_⟩
  walk_at "w"
  intro l hl
  have hxl : x ≠ l := ne_of_none (by walk_at "hp") hl
  have l0 : H l = none := by rw [upd_ne (Ne.symm hxl)] at hl; exact hl
  walk_at "w"
  intro r hr
  have hxr : x ≠ r := ne_of_none upd_same hr
  have hlr : l ≠ r := ne_of_none (by walk_at "hp") hr
  have r0 : H r = none := by rw [upd_ne (Ne.symm hxr), upd_ne (Ne.symm hlr), upd_ne (Ne.symm hxr)] at hr; exact hr
  walk_at "w"
  intro f0 hf0
  walk_at "w"
  intro f hf
  have hxf : x ≠ f := ne_of_none (by walk_at "hp") hf
  have hlf : l ≠ f := ne_of_none (by walk_at "hp") hf
  have hrf : r ≠ f := ne_of_none (by walk_at "hp") hf
  have hff : f0 ≠ f := ne_of_none (by walk_at "hp") hf
  have f00 : H f = none := by rw [upd_ne (Ne.symm hff), upd_ne (Ne.symm hxf), upd_ne (Ne.symm hrf), upd_ne (Ne.symm hxf), upd_ne (Ne.symm hlf), upd_ne (Ne.symm hxf)] at hf; exact hf
  walk_at "w"
  refine h2 n0 n1 l r f _ l0 r0 f00 ⟨⟨dx, upd_same⟩, by walk_at "hp", by walk_at "hp", by walk_at "hp", hlr, hlf, hrf⟩ ?_
  have f01 : H f0 = none := by walk_at "fr"
  exact ((((((((Kp.refl.mut (by simp)).own l0).mut (by simp)).own r0).mut (by simp)).own f01).own f00).mut (by simp))
/-- the new object's promise -/
def newSp (a : AD) (n : Int) (L R : List Int) (F : List Bool) (H : Hp) (Q : VK) : Prop := ∀ (x l r f : Addr) (H' : Hp), H x = none → H l = none → H r = none → H f = none → Lnk a H' x l r f n L R F → Kp [] H H' → Q (.ref x) H'
def sp_Links_built (a : AD) : Sp := fun vs H Q E => ∃ (n : Int) (pl pr pf : Addr) (L R : List Int) (F : List Bool), vs = [.int n, .ref pl, .ref pr, .ref pf] ∧ 0 ≤ n ∧ n ≤ 60 ∧ H pl = some (.lst (L.map V.int)) ∧ H pr = some (.lst (R.map V.int)) ∧ H pf = some (.lst (F.map V.bl)) ∧ newSp a n L R F H Q
def sp_Links_copy (a : AD) : Sp := fun vs H Q E => ∃ (x l r f : Addr) (n : Int) (L R : List Int) (F : List Bool), vs = [.ref x] ∧ Lnk a H x l r f n L R F ∧ 0 ≤ n ∧ n ≤ 60 ∧ newSp a n L R F H Q
/-! ### reading a dump -/
def sp_is_number (a : AD) : Sp := fun vs H Q E => ∃ z : Str, vs = [.str z] ∧ z.length ≤ 1000000 ∧ Q (.bl (isNumW z)) H
/-- a new list of the numbers, or None -/
def rdSp (H : Hp) (Q : VK) (R : List Int → Prop) : Prop := (∀ us, R us → ∀ r H', H r = none → Kp [] H H' → H' r = some (.lst (us.map V.int)) → Q (.ref r) H') ∧ ((∀ us, ¬R us) → ∀ H', Kp [] H H' → Q .non H')
def sp__numbers (a : AD) : Sp := fun vs H Q E => ∃ z : Str, vs = [.str z] ∧ z.length ≤ 1000000 ∧ rdSp H Q (fun us => numsOf z = some us)
def RightsOk (us : List Int) : Prop := us.length ≤ 61 ∧ ∀ (i : Nat) (u : Int), us[i]? = some u → (i : Int) < u ∧ u ≤ us.length
def LeftsOk (n : Int) (us : List Int) : Prop := (us.length : Int) = n + 1 ∧ ∀ (i : Nat) (u : Int), us[i]? = some u → u ≤ (i : Int)
def outsOk (n : Int) : Int → List Int → Prop
  | _, [] => True
  | last, u :: us => last < u ∧ u ≤ n ∧ outsOk n u us
def RdR (z : Str) (us : List Int) : Prop := numsOf z = some us ∧ RightsOk us
def RdL (n : Int) (z : Str) (us : List Int) : Prop := numsOf z = some us ∧ LeftsOk n us
def RdO (n : Int) (z : Str) (us : List Int) : Prop := (z = "none" ∧ us = []) ∨ (z ≠ "none" ∧ numsOf z = some us ∧ outsOk n 0 us)
def sp__read_rights (a : AD) : Sp := fun vs H Q E => ∃ z : Str, vs = [.str z] ∧ z.length ≤ 1000000 ∧ rdSp H Q (RdR z)
def sp__read_lefts (a : AD) : Sp := fun vs H Q E => ∃ (z : Str) (n : Int), vs = [.str z, .int n] ∧ z.length ≤ 1000000 ∧ rdSp H Q (RdL n z)
theorem take_snoc {α : Type} {us : List α} {i : Nat} {u : α} (h : us[i]? = some u) : us.take (i + 1) = us.take i ++ [u] := by
  rw [List.take_succ, h]; rfl
/-- outsOk from the front -/
theorem outsOk_snoc {n : Int} : ∀ {us : List Int} {last u : Int}, outsOk n last (us ++ [u]) ↔ outsOk n last us ∧ (us.getLastD last < u ∧ u ≤ n)
  | [], last, u => by simp [outsOk]
  | v :: us, last, u => by
    rw [List.cons_append]
    unfold outsOk
    rw [outsOk_snoc]
    have : (v :: us).getLastD last = us.getLastD v := by cases us <;> rfl
    rw [this]
    simp only [and_assoc]
theorem outsOk_app {n : Int} : ∀ {us vs : List Int} {last : Int}, outsOk n last (us ++ vs) → outsOk n last us
  | [], _, _, _ => trivial
  | v :: us, vs, last, h => ⟨h.1, h.2.1, outsOk_app h.2.2⟩
def sp__read_outs (a : AD) : Sp := fun vs H Q E => ∃ (z : Str) (n : Int), vs = [.str z, .int n] ∧ z.length ≤ 1000000 ∧ rdSp H Q (RdO n z)
def flagsOf (n : Int) (os : List Int) : List Bool := os.foldl (fun F v => F.set v.toNat true) (List.replicate (n + 2).toNat false)
theorem flagsOf_len (n : Int) (os : List Int) : (flagsOf n os).length = (n + 2).toNat := by
  unfold flagsOf
  suffices h : ∀ (l : List Int) (fs : List Bool), (l.foldl (fun F v => F.set v.toNat true) fs).length = fs.length by
    rw [h]; simp
  intro l
  induction l with
  | nil => intro fs; rfl
  | cons o l ih => intro fs; rw [List.foldl_cons, ih]; simp
theorem flagsOf_snoc (n : Int) (l : List Int) (o : Int) : flagsOf n (l ++ [o]) = (flagsOf n l).set o.toNat true := by
  unfold flagsOf
  rw [List.foldl_append]; rfl
theorem outsOk_mem {n : Int} : ∀ {us : List Int} {last : Int}, outsOk n last us → ∀ u ∈ us, last < u ∧ u ≤ n
  | [], _, _ => fun u hu => by cases hu
  | v :: us, last, h => fun u hu => by
    rcases List.mem_cons.mp hu with z | z
    · subst z; exact ⟨h.1, h.2.1⟩
    · have := outsOk_mem h.2.2 u z
      have := h.1
      omega
def readSp (a : AD) (ps : List Str) (H : Hp) (Q : VK) (E : XK) : Prop :=
  (∀ us ls os, RdR (ps.getD 0 default) us → 1 < ps.length → RdL ((us.length : Int) - 1) (ps.getD 1 default) ls → 2 < ps.length → RdO ((us.length : Int) - 1) (ps.getD 2 default) os → ps.length ≤ 3 →
    newSp a ((us.length : Int) - 1) (-1 :: ls) (us ++ [(us.length : Int) - 1 + 2]) (flagsOf ((us.length : Int) - 1) os) H Q) ∧
  ((∀ us, ¬RdR (ps.getD 0 default) us) → xBadDump a (.int 0) E H) ∧
  (∀ us, RdR (ps.getD 0 default) us → (1 < ps.length → ∀ ls, ¬RdL ((us.length : Int) - 1) (ps.getD 1 default) ls) → xBadDump a (.int 1) E H) ∧
  (∀ us ls, RdR (ps.getD 0 default) us → 1 < ps.length → RdL ((us.length : Int) - 1) (ps.getD 1 default) ls → (2 < ps.length → ∀ os, ¬RdO ((us.length : Int) - 1) (ps.getD 2 default) os) → xBadDump a (.int 2) E H) ∧
  (∀ us ls os, RdR (ps.getD 0 default) us → 1 < ps.length → RdL ((us.length : Int) - 1) (ps.getD 1 default) ls → 2 < ps.length → RdO ((us.length : Int) - 1) (ps.getD 2 default) os → 3 < ps.length → xBadDump a (.int 3) E H)
theorem RdR.len {z : Str} {us : List Int} (h : RdR z us) : 1 ≤ us.length ∧ us.length ≤ 61 := ⟨(numsOf_len h.1).1, h.2.1⟩
theorem RdO.ok {n : Int} {z : Str} {us : List Int} (h : RdO n z us) : outsOk n 0 us := by
  rcases h with h | h
  · rw [h.2]; trivial
  · exact h.2.2
def sp_Links_read (a : AD) : Sp := fun vs H Q E => ∃ z : Str, vs = [.str z] ∧ z.length ≤ 900000 ∧ readSp a (Txt.split z " | ") H Q E
/-! ### the text of a standing -/
def outL (n : Int) (F : List Bool) : List Int := (List.range n.toNat).filterMap fun i : Nat => if F.getD (i + 1) default = true then some (1 + (i : Int)) else none
def goneT (n : Int) (F : List Bool) : Str := if outL n F = [] then "none" else Txt.join " " ((outL n F).map strI)
def textOf (n : Int) (R L : List Int) (F : List Bool) : Str := Txt.join " " (R.map strI) ++ " | " ++ Txt.join " " ((L.drop 1).map strI) ++ " | " ++ goneT n F
/-- a standing as the law draws it -/
structure WF (n : Int) (R L : List Int) (F : List Bool) : Prop where
  n0 : 0 ≤ n
  n1 : n ≤ 60
  hR : R.length = (n + 1).toNat
  hL : L.length = (n + 2).toNat
  hF : F.length = (n + 2).toNat
  r : ∀ (i : Nat) (u : Int), R[i]? = some u → (i : Int) < u ∧ u ≤ n + 1
  l0 : L[0]? = some (-1)
  l : ∀ (i : Nat) (u : Int), 1 ≤ i → L[i]? = some u → 0 ≤ u ∧ u < (i : Int)
  f0 : F.getD 0 default = false
  f1 : F.getD (n + 1).toNat default = false
theorem outL_mem {n : Int} {F : List Bool} {u : Int} (h : u ∈ outL n F) : 1 ≤ u ∧ u ≤ n ∧ F.getD u.toNat default = true := by
  unfold outL at h
  rw [List.mem_filterMap] at h
  obtain ⟨i, hi, e⟩ := h
  rw [List.mem_range] at hi
  split at e
  · rename_i q
    cases e
    refine ⟨by omega, by omega, ?_⟩
    rw [show (1 + (i : Int)).toNat = i + 1 by omega]
    exact q
  · cases e
theorem outL_len (n : Int) (F : List Bool) : (outL n F).length ≤ n.toNat := by
  have := fm_len (fun i : Nat => if F.getD (i + 1) default = true then some (1 + (i : Int)) else none) (List.range n.toNat)
  rw [List.length_range] at this
  exact this
/-- the outs from 1 to k -/
def outK (F : List Bool) (k : Nat) : List Int := (List.range k).filterMap fun i : Nat => if F.getD (i + 1) default = true then some (1 + (i : Int)) else none
theorem outK_succ (F : List Bool) (k : Nat) : outK F (k + 1) = outK F k ++ (if F.getD (k + 1) default = true then [1 + (k : Int)] else []) := by
  unfold outK
  rw [List.range_succ, List.filterMap_append]
  congr 1
  rw [List.filterMap_cons, List.filterMap_nil]
  by_cases z : F.getD (k + 1) default = true
  · rw [if_pos z, if_pos z]
  · rw [if_neg z, if_neg z]
theorem outK_last (F : List Bool) : ∀ k : Nat, (outK F k).getLastD 0 ≤ (k : Int) ∧ 0 ≤ (outK F k).getLastD 0
  | 0 => by simp [outK]
  | k + 1 => by
    have := outK_last F k
    rw [outK_succ]
    split
    · simp; omega
    · rw [List.append_nil]; omega
theorem outK_ok {n : Int} (F : List Bool) : ∀ k : Nat, (k : Int) ≤ n → outsOk n 0 (outK F k)
  | 0, _ => trivial
  | k + 1, h => by
    have ih := outK_ok (n := n) F k (by omega)
    rw [outK_succ]
    split
    · rw [outsOk_snoc]
      have := outK_last F k
      exact ⟨ih, by omega, by omega⟩
    · rw [List.append_nil]; exact ih
theorem outL_ok {n : Int} (n0 : 0 ≤ n) (F : List Bool) : outsOk n 0 (outL n F) := outK_ok F n.toNat (by omega)
theorem getD_set_eq {α : Type} [Inhabited α] {us : List α} {i : Nat} {u : α} (h : i < us.length) : (us.set i u).getD i default = u := by
  simp [List.getD, h]
theorem getD_set_ne {α : Type} [Inhabited α] {us : List α} {i j : Nat} {u : α} (h : i ≠ j) : (us.set i u).getD j default = us.getD j default := by
  simp [List.getD, List.getElem?_set_ne h]
theorem flagsOf_outK {n : Int} (n0 : 0 ≤ n) (F : List Bool) : ∀ k : Nat, (k : Int) ≤ n → ∀ j : Nat, j < (n + 2).toNat → (flagsOf n (outK F k)).getD j default = if 1 ≤ j ∧ j ≤ k then F.getD j default else false
  | 0, _, j, hj => by
    rw [if_neg (by omega)]
    show (List.replicate (n + 2).toNat false).getD j default = false
    simp [List.getD, List.getElem?_replicate]
    split <;> rfl
  | k + 1, h, j, hj => by
    have ih := flagsOf_outK n0 F k (by omega) j hj
    have hl := flagsOf_len n (outK F k)
    rw [outK_succ]
    by_cases z : F.getD (k + 1) default = true
    · rw [if_pos z, flagsOf_snoc, show (1 + (k : Int)).toNat = k + 1 by omega]
      by_cases q : j = k + 1
      · subst q
        rw [if_pos ⟨by omega, Nat.le_refl _⟩, z]
        exact getD_set_eq (by rw [hl]; omega)
      · have e : ((flagsOf n (outK F k)).set (k + 1) true).getD j default = (flagsOf n (outK F k)).getD j default := by
          exact getD_set_ne (fun y => q y.symm)
        rw [e, ih]
        by_cases q2 : 1 ≤ j ∧ j ≤ k
        · rw [if_pos q2, if_pos ⟨q2.1, by omega⟩]
        · rw [if_neg q2, if_neg (fun y => q2 ⟨y.1, by omega⟩)]
    · rw [if_neg z, List.append_nil, ih]
      by_cases q : j = k + 1
      · subst q
        rw [if_neg (by omega), if_pos ⟨by omega, Nat.le_refl _⟩]
        cases y : F.getD (k + 1) default with
        | true => exact absurd y z
        | false => rfl
      · by_cases q2 : 1 ≤ j ∧ j ≤ k
        · rw [if_pos q2, if_pos ⟨q2.1, by omega⟩]
        · rw [if_neg q2, if_neg (fun y => q2 ⟨y.1, by omega⟩)]
theorem getD_ext {α : Type} [Inhabited α] {us vs : List α} (hl : us.length = vs.length) (h : ∀ j, j < us.length → us.getD j default = vs.getD j default) : us = vs := by
  apply List.ext_getElem hl
  intro i h1 h2
  have := h i h1
  simpa [List.getD, List.getElem?_eq_getElem h1, List.getElem?_eq_getElem h2] using this
theorem flags_back {n : Int} {R L : List Int} {F : List Bool} (w : WF n R L F) : flagsOf n (outL n F) = F := by
  have hl := flagsOf_len n (outL n F)
  refine getD_ext (by rw [hl, w.hF]) fun j hj => ?_
  rw [hl] at hj
  have e := flagsOf_outK w.n0 F n.toNat (by have := w.n0; omega) j hj
  have e2 : outK F n.toNat = outL n F := rfl
  rw [e2] at e
  rw [e]
  by_cases q : 1 ≤ j ∧ j ≤ n.toNat
  · rw [if_pos q]
  · rw [if_neg q]
    by_cases z : j = 0
    · subst z; exact w.f0.symm
    · have : j = (n + 1).toNat := by have := w.n0; omega
      rw [this]; exact w.f1.symm
theorem none_free : 124 ∉ TL.tl ("none" : Str) := by decide +kernel
theorem none_ne {us : List Int} (hne : us ≠ []) (h : ∀ u ∈ us, 0 ≤ u) : Txt.join " " (us.map strI) ≠ ("none" : Str) := by
  intro e
  cases us with
  | nil => exact hne rfl
  | cons u us =>
    have e2 := congrArg TL.tl e
    have e3 : TL.tl ("none" : Str) = [110, 111, 110, 101] := by decide +kernel
    rw [TL.join_eq, TL.tl_join, e3] at e2
    have h0 := tl_strI (h u List.mem_cons_self)
    have hne := TL.numL_ne u.toNat
    have hd := TL.numL_digits u.toNat
    cases q : TL.numL u.toNat with
    | nil => exact hne q
    | cons c r =>
      have hc : 48 ≤ c ∧ c ≤ 57 := hd c (by rw [q]; exact List.mem_cons_self)
      cases us with
      | nil =>
        have e4 : TL.tl (strI u) = [110, 111, 110, 101] := e2
        rw [h0, q] at e4
        injection e4 with e5
        omega
      | cons v vs =>
        have e4 : TL.tl (strI u) ++ (TL.tl " " ++ TL.joinL (TL.tl " ") ((v :: vs).map fun x => TL.tl (strI x))) = [110, 111, 110, 101] := by
          rw [← e2]
          simp only [List.map_cons, List.map_map]
          rfl
        rw [h0, q, List.cons_append] at e4
        injection e4 with e5
        omega
theorem WF.rs {n : Int} {R L : List Int} {F : List Bool} (w : WF n R L F) : ∀ u ∈ R, 0 ≤ u ∧ u < 1000000000 := by
  intro u hu
  obtain ⟨i, hi, rfl⟩ := List.getElem_of_mem hu
  have := w.r i _ (List.getElem?_eq_getElem hi)
  have := w.n1
  omega
theorem WF.ls {n : Int} {R L : List Int} {F : List Bool} (w : WF n R L F) : ∀ u ∈ L.drop 1, 0 ≤ u ∧ u < 1000000000 := by
  intro u hu
  obtain ⟨i, hi, rfl⟩ := List.getElem_of_mem hu
  have e : (L.drop 1)[i]? = L[1 + i]? := List.getElem?_drop ..
  rw [List.getElem?_eq_getElem hi] at e
  have h1 := w.l (1 + i) _ (by omega) e.symm
  have hl := w.hL
  have := w.n1
  rw [List.length_drop] at hi
  omega
theorem WF.os {n : Int} {R L : List Int} {F : List Bool} (w : WF n R L F) : ∀ u ∈ outL n F, 0 ≤ u ∧ u < 1000000000 := by
  intro u hu
  have := outL_mem hu
  have := w.n1
  omega
/-- the read-back -/
theorem text_parts {n : Int} {R L : List Int} {F : List Bool} (w : WF n R L F) : Txt.split (textOf n R L F) " | " = [Txt.join " " (R.map strI), Txt.join " " ((L.drop 1).map strI), goneT n F] := by
  unfold textOf
  refine split_three (no_bar fun u hu => (w.rs u hu).1) (no_bar fun u hu => (w.ls u hu).1) ?_
  unfold goneT
  split
  · exact none_free
  · exact no_bar fun u hu => (w.os u hu).1
theorem WF.rne {n : Int} {R L : List Int} {F : List Bool} (w : WF n R L F) : R ≠ [] := by
  intro e
  have h := w.hR
  have := w.n0
  rw [e] at h
  simp at h
  omega
theorem WF.lne {n : Int} {R L : List Int} {F : List Bool} (w : WF n R L F) : L.drop 1 ≠ [] := by
  intro e
  have h := congrArg List.length e
  rw [List.length_drop, w.hL] at h
  have := w.n0
  simp at h
  omega
theorem text_r {n : Int} {R L : List Int} {F : List Bool} (w : WF n R L F) : RdR (Txt.join " " (R.map strI)) R := by
  refine ⟨numsOf_join w.rne w.rs, ?_, fun i u hu => ?_⟩
  · have := w.hR; have := w.n1; omega
  · have := w.r i u hu
    have := w.hR
    have := w.n0
    omega
theorem text_l {n : Int} {R L : List Int} {F : List Bool} (w : WF n R L F) : RdL n (Txt.join " " ((L.drop 1).map strI)) (L.drop 1) := by
  refine ⟨numsOf_join w.lne w.ls, ?_, fun i u hu => ?_⟩
  · rw [List.length_drop, w.hL]; have := w.n0; omega
  · rw [List.getElem?_drop] at hu
    have := w.l (1 + i) u (by omega) hu
    omega
theorem text_o {n : Int} {R L : List Int} {F : List Bool} (w : WF n R L F) : RdO n (goneT n F) (outL n F) := by
  unfold goneT
  split
  · rename_i h
    exact .inl ⟨rfl, h⟩
  · rename_i h
    exact .inr ⟨none_ne h (fun u hu => (w.os u hu).1), numsOf_join h w.os, outL_ok w.n0 F⟩
theorem WF.lcons {n : Int} {R L : List Int} {F : List Bool} (w : WF n R L F) : -1 :: L.drop 1 = L := by
  cases e : L with
  | nil => have := w.l0; rw [e] at this; cases this
  | cons c t =>
    have := w.l0
    rw [e] at this
    cases this
    rfl
theorem text_len {n : Int} {R L : List Int} {F : List Bool} (w : WF n R L F) : (textOf n R L F).length ≤ 10000 ∧ (Txt.join " " (R.map strI)).length ≤ 610 ∧ (Txt.join " " ((L.drop 1).map strI)).length ≤ 610 ∧ (goneT n F).length ≤ 610 := by
  have h1 := (nums_len w.rs).1
  have h2 := (nums_len w.ls).1
  have h3 := (nums_len w.os).1
  have h4 := outL_len n F
  have := w.hR
  have := w.hL
  have := w.n1
  have hg : (goneT n F).length ≤ 610 := by
    unfold goneT
    split
    · show ("none" : Str).length ≤ 610
      have : ("none" : Str).length = 4 := by decide +kernel
      omega
    · omega
  rw [List.length_drop] at h2
  have hb : (" | " : Str).length = 3 := by decide +kernel
  refine ⟨?_, by omega, by omega, hg⟩
  unfold textOf
  rw [len_app, len_app, len_app, len_app, hb]
  omega
/-- what Links.read makes of the text -/
theorem read_text {a : AD} {n : Int} {R L : List Int} {F : List Bool} {H : Hp} {Q : VK} {E : XK} (w : WF n R L F) (k : newSp a n L (R ++ [n + 2]) F H Q) : readSp a (Txt.split (textOf n R L F) " | ") H Q E := by
  rw [text_parts w]
  have hr := text_r w
  have hl := text_l w
  have ho := text_o w
  have hn : (R.length : Int) - 1 = n := by have := w.hR; have := w.n0; omega
  have ur : ∀ us, RdR (Txt.join " " (R.map strI)) us → us = R := fun us h => by
    have := h.1
    rw [hr.1] at this
    exact (Option.some.inj this).symm
  have ul : ∀ us, RdL n (Txt.join " " ((L.drop 1).map strI)) us → us = L.drop 1 := fun us h => by
    have := h.1
    rw [hl.1] at this
    exact (Option.some.inj this).symm
  have uo : ∀ us, RdO n (goneT n F) us → us = outL n F := fun us h => by
    rcases h with ⟨e1, e2⟩ | ⟨e1, e2, _⟩ <;> rcases ho with ⟨d1, d2⟩ | ⟨d1, d2, _⟩
    · rw [e2, d2]
    · exact absurd e1 d1
    · exact absurd d1 e1
    · rw [d2] at e2
      exact (Option.some.inj e2).symm
  refine ⟨fun us ls os h1 _ h2 _ h3 _ => ?_, fun h => absurd hr (h R), fun us h1 h => ?_, fun us ls h1 _ h2 h => ?_, fun us ls os _ _ _ _ _ h => ?_⟩
  · have e1 := ur us h1
    subst e1
    rw [hn] at h2 h3 ⊢
    have e2 := ul ls h2
    have e3 := uo os h3
    subst e2 e3
    rw [w.lcons, flags_back w]
    exact k
  · have e1 := ur us h1
    subst e1
    rw [hn] at h
    exact absurd hl (h (by simp) _)
  · have e1 := ur us h1
    subst e1
    rw [hn] at h
    exact absurd ho (h (by simp) _)
  · simp at h

theorem fm_congr {α β : Type} {f g : α → Option β} : ∀ {l : List α}, (∀ x ∈ l, f x = g x) → l.filterMap f = l.filterMap g
  | [], _ => rfl
  | x :: l, h => by
    rw [List.filterMap_cons, List.filterMap_cons, h x List.mem_cons_self, fm_congr (fun y hy => h y (List.mem_cons_of_mem _ hy))]
/-! ### the dump -/
theorem cut_last {α : Type} {xs : List α} {x : α} : cut (xs ++ [x]) none (some (-1)) = xs := by
  unfold cut
  simp [HT.sIx]
  rw [show (-1 + ((xs.length : Int) + 1)).toNat = xs.length by omega, List.take_left]
theorem cut_tail {α : Type} {xs : List α} : cut xs (some 1) none = xs.drop 1 := by
  unfold cut
  simp only [HT.sIx]
  rw [if_neg (by decide)]
  cases xs with
  | nil => simp
  | cons x xs =>
    rw [show min (1 : Int).toNat (x :: xs).length = 1 by simp]
    simp
/-- the three parts -/
def sp_Links__dump_parts (a : AD) : Sp := fun vs H Q E => ∃ (x l r f : Addr) (n : Int) (L R : List Int) (F : List Bool), vs = [.ref x] ∧ Lnk a H x l r f n L (R ++ [n + 2]) F ∧ WF n R L F ∧ ∀ p H', H p = none → Kp [] H H' → H' p = some (.lst ([Txt.join " " (R.map strI), Txt.join " " ((L.drop 1).map strI), goneT n F].map V.str)) → Q (.ref p) H'
def sp_Links_dump (a : AD) : Sp := fun vs H Q E => ∃ (x l r f : Addr) (n : Int) (L R : List Int) (F : List Bool), vs = [.ref x] ∧ Lnk a H x l r f n L (R ++ [n + 2]) F ∧ WF n R L F ∧ ∀ H', Kp [] H H' → Q (.str (textOf n R L F)) H'
/-! ### the gaps -/
def stateOf (R L : List Int) (g : Int) : Str := if R.getD g.toNat default = g + 1 then (if L.getD (g + 1).toNat default = g then "joined" else "left") else if L.getD (g + 1).toNat default = g then "right" else "lost"
/-- the object at x is what is asked, its lists as long as they should be -/
def Obj (a : AD) (H : Hp) (x l r f : Addr) (n : Int) (L R : List Int) (F : List Bool) : Prop := Lnk a H x l r f n L R F ∧ 0 ≤ n ∧ n ≤ 60 ∧ L.length = (n + 2).toNat ∧ R.length = (n + 2).toNat ∧ F.length = (n + 2).toNat
theorem Obj.kp0 {a : AD} {H H' : Hp} {x l r f : Addr} {n : Int} {L R : List Int} {F : List Bool} (h : Obj a H x l r f n L R F) (k : Kp [] H H') : Obj a H' x l r f n L R F := ⟨h.1.kp0 k, h.2⟩
def sp_left_holds (a : AD) : Sp := fun vs H Q E => ∃ (x l r f : Addr) (n g : Int) (L R : List Int) (F : List Bool), vs = [.ref x, .int g] ∧ Obj a H x l r f n L R F ∧ 0 ≤ g ∧ g ≤ n ∧ Q (.bl (decide (R.getD g.toNat default = g + 1))) H
theorem sc_left_holds : FnScope ["links", "gap"] ["links", "gap"] (defScope s_left_holds) := ⟨rfl, rfl, rfl, by decide +kernel, rfl, by decide +kernel, by decide +kernel⟩
theorem ok_left_holds {P : Program} {w : World} {K : PySem.W.Frag} {mg : Str → Option Value} {base : Heap} {a : AD} (T : Txt P K mg a) (G_Links_right : FnA P w K mg base 2 a.f_Links_right ["self", "node"] (sp_Links_right a)) : FnA P w K mg base 3 a.f_left_holds ["links", "gap"] (sp_left_holds a) := by
  obtain ⟨fd, F, b⟩ := T.F_left_holds
  refine FnA.of F sc_left_holds b (fun vs H Q E h => by first | (obtain ⟨rfl, _⟩ := h; rfl) | (obtain ⟨_, rfl, _⟩ := h; rfl) | (obtain ⟨_, _, rfl, _⟩ := h; rfl) | (obtain ⟨_, _, _, rfl, _⟩ := h; rfl) | (obtain ⟨_, _, _, _, rfl, _⟩ := h; rfl) | (obtain ⟨_, _, _, _, _, rfl, _⟩ := h; rfl) | (obtain ⟨_, _, _, _, _, _, rfl, _⟩ := h; rfl) | (obtain ⟨_, _, _, _, _, _, _, rfl, _⟩ := h; rfl) | (obtain ⟨_, _, _, _, _, _, _, _, rfl, _⟩ := h; rfl) | (obtain ⟨_, _, _, _, _, _, _, _, _, rfl, _⟩ := h; rfl) | (obtain ⟨_, _, _, _, _, _, _, _, _, _, rfl, _⟩ := h; rfl) | (obtain ⟨_, _, _, _, _, _, _, _, _, _, _, rfl, _⟩ := h; rfl) | (obtain ⟨_, _, _, _, _, _, _, _, _, _, _, _, rfl, _⟩ := h; rfl) | (obtain ⟨_, _, _, _, _, _, _, _, _, _, _, _, _, rfl, _⟩ := h; rfl) | (obtain ⟨_, _, _, _, _, _, _, _, _, _, _, _, _, _, rfl, _⟩ := h; rfl) | (obtain ⟨_, _, _, _, _, _, _, _, _, _, _, _, _, _, _, rfl, _⟩ := h; rfl) | (obtain ⟨_, _, _, _, _, _, _, _, _, _, _, _, _, _, _, _, rfl, _⟩ := h; rfl) | (obtain ⟨_, _, _, _, _, _, _, _, _, _, _, _, _, _, _, _, _, rfl, _⟩ := h; rfl) | (obtain ⟨_, _, _, _, _, _, _, _, _, _, _, _, _, _, _, _, _, _, rfl, _⟩ := h; rfl) | (obtain ⟨_, _, _, _, _, _, _, _, _, _, _, _, _, _, _, _, _, _, _, rfl, _⟩ := h; rfl) | (obtain ⟨_, _, _, _, _, _, _, _, _, _, _, _, _, _, _, _, _, _, _, _, rfl, _⟩ := h; rfl) | (obtain ⟨_, _, _, _, _, _, _, _, _, _, _, _, _, _, _, _, _, _, _, _, _, rfl, _⟩ := h; rfl) | (obtain ⟨_, _, _, _, _, _, _, _, _, _, _, _, _, _, _, _, _, _, _, _, _, _, rfl, _⟩ := h; rfl) | (obtain ⟨_, _, _, _, _, _, _, _, _, _, _, _, _, _, _, _, _, _, _, _, _, _, _, rfl, _⟩ := h; rfl)) (fun cdv A outer s H vs Q E hr tk pz h => ?_)
  have hu := hr.units
  have hrH := L2H.roomH_of hr
  obtain ⟨x, l, r, f, n, g, L, R, F, rfl, hO, g0, g1, k⟩ := h
  have hx := hO.1.1.choose_spec
  refine ⟨_, (pss_one (ps_ret (pe_cmpR (o_eq hu) (pe_methS (pl := _) G_Links_right (Room.mono hr (by decide)) T.cl_Links T.me_Links_right tk (pv 0) (pa_cons (pv 1) pa_nil)) (pe_op o_add (pv 1) pe_int) (nomark _)))), ?_⟩
  show (_ : Ends → L2.St → Hp → Prop) _ [some _, some _] _
  try dsimp only [L2H.cxH, cxOf]
  walk_at "w"
  refine ⟨x, l, r, f, n, g, L, R, F, rfl, hO.1, hO.2.2.2.2.1, fun z => absurd ⟨g0, g1⟩ z, fun _ _ => ?_⟩
  walk_at "w"
  exact k
def sp_right_holds (a : AD) : Sp := fun vs H Q E => ∃ (x l r f : Addr) (n g : Int) (L R : List Int) (F : List Bool), vs = [.ref x, .int g] ∧ Obj a H x l r f n L R F ∧ 0 ≤ g ∧ g ≤ n ∧ Q (.bl (decide (L.getD (g + 1).toNat default = g))) H
theorem sc_right_holds : FnScope ["links", "gap"] ["links", "gap"] (defScope s_right_holds) := ⟨rfl, rfl, rfl, by decide +kernel, rfl, by decide +kernel, by decide +kernel⟩
theorem ok_right_holds {P : Program} {w : World} {K : PySem.W.Frag} {mg : Str → Option Value} {base : Heap} {a : AD} (T : Txt P K mg a) (G_Links_left : FnA P w K mg base 2 a.f_Links_left ["self", "node"] (sp_Links_left a)) : FnA P w K mg base 3 a.f_right_holds ["links", "gap"] (sp_right_holds a) := by
  obtain ⟨fd, F, b⟩ := T.F_right_holds
  refine FnA.of F sc_right_holds b (fun vs H Q E h => by first | (obtain ⟨rfl, _⟩ := h; rfl) | (obtain ⟨_, rfl, _⟩ := h; rfl) | (obtain ⟨_, _, rfl, _⟩ := h; rfl) | (obtain ⟨_, _, _, rfl, _⟩ := h; rfl) | (obtain ⟨_, _, _, _, rfl, _⟩ := h; rfl) | (obtain ⟨_, _, _, _, _, rfl, _⟩ := h; rfl) | (obtain ⟨_, _, _, _, _, _, rfl, _⟩ := h; rfl) | (obtain ⟨_, _, _, _, _, _, _, rfl, _⟩ := h; rfl) | (obtain ⟨_, _, _, _, _, _, _, _, rfl, _⟩ := h; rfl) | (obtain ⟨_, _, _, _, _, _, _, _, _, rfl, _⟩ := h; rfl) | (obtain ⟨_, _, _, _, _, _, _, _, _, _, rfl, _⟩ := h; rfl) | (obtain ⟨_, _, _, _, _, _, _, _, _, _, _, rfl, _⟩ := h; rfl) | (obtain ⟨_, _, _, _, _, _, _, _, _, _, _, _, rfl, _⟩ := h; rfl) | (obtain ⟨_, _, _, _, _, _, _, _, _, _, _, _, _, rfl, _⟩ := h; rfl) | (obtain ⟨_, _, _, _, _, _, _, _, _, _, _, _, _, _, rfl, _⟩ := h; rfl) | (obtain ⟨_, _, _, _, _, _, _, _, _, _, _, _, _, _, _, rfl, _⟩ := h; rfl) | (obtain ⟨_, _, _, _, _, _, _, _, _, _, _, _, _, _, _, _, rfl, _⟩ := h; rfl) | (obtain ⟨_, _, _, _, _, _, _, _, _, _, _, _, _, _, _, _, _, rfl, _⟩ := h; rfl) | (obtain ⟨_, _, _, _, _, _, _, _, _, _, _, _, _, _, _, _, _, _, rfl, _⟩ := h; rfl) | (obtain ⟨_, _, _, _, _, _, _, _, _, _, _, _, _, _, _, _, _, _, _, rfl, _⟩ := h; rfl) | (obtain ⟨_, _, _, _, _, _, _, _, _, _, _, _, _, _, _, _, _, _, _, _, rfl, _⟩ := h; rfl) | (obtain ⟨_, _, _, _, _, _, _, _, _, _, _, _, _, _, _, _, _, _, _, _, _, rfl, _⟩ := h; rfl) | (obtain ⟨_, _, _, _, _, _, _, _, _, _, _, _, _, _, _, _, _, _, _, _, _, _, rfl, _⟩ := h; rfl) | (obtain ⟨_, _, _, _, _, _, _, _, _, _, _, _, _, _, _, _, _, _, _, _, _, _, _, rfl, _⟩ := h; rfl)) (fun cdv A outer s H vs Q E hr tk pz h => ?_)
  have hu := hr.units
  have hrH := L2H.roomH_of hr
  obtain ⟨x, l, r, f, n, g, L, R, F, rfl, hO, g0, g1, k⟩ := h
  have hx := hO.1.1.choose_spec
  refine ⟨_, (pss_one (ps_ret (pe_cmpR (o_eq hu) (pe_methS (pl := _) G_Links_left (Room.mono hr (by decide)) T.cl_Links T.me_Links_left tk (pv 0) (pa_cons (pe_op o_add (pv 1) pe_int) pa_nil)) (pv 1) (nomark _)))), ?_⟩
  show (_ : Ends → L2.St → Hp → Prop) _ [some _, some _] _
  try dsimp only [L2H.cxH, cxOf]
  walk_at "w"
  refine ⟨x, l, r, f, n, g + 1, L, R, F, rfl, hO.1, hO.2.2.2.1, fun z => absurd ⟨by omega, by omega⟩ z, fun _ _ => ?_⟩
  walk_at "w"
  exact k
def sp_gap_state (a : AD) : Sp := fun vs H Q E => ∃ (x l r f : Addr) (n g : Int) (L R : List Int) (F : List Bool), vs = [.ref x, .int g] ∧ Obj a H x l r f n L R F ∧ (¬(0 ≤ g ∧ g ≤ n) → xBadGap a (.int g) E H) ∧ (0 ≤ g → g ≤ n → Q (.str (stateOf R L g)) H)
theorem sc_gap_state : FnScope ["links", "gap"] ["links", "gap"] (defScope s_gap_state) := ⟨rfl, rfl, rfl, by decide +kernel, rfl, by decide +kernel, by decide +kernel⟩
theorem ok_gap_state {P : Program} {w : World} {K : PySem.W.Frag} {mg : Str → Option Value} {base : Heap} {a : AD} (T : Txt P K mg a) (G_check_gap : FnA P w K mg base 2 a.f_check_gap ["size", "gap"] (sp_check_gap a)) (G_left_holds : FnA P w K mg base 3 a.f_left_holds ["links", "gap"] (sp_left_holds a)) (G_right_holds : FnA P w K mg base 3 a.f_right_holds ["links", "gap"] (sp_right_holds a)) : FnA P w K mg base 4 a.f_gap_state ["links", "gap"] (sp_gap_state a) := by
  obtain ⟨fd, F, b⟩ := T.F_gap_state
  refine FnA.of F sc_gap_state b (fun vs H Q E h => by first | (obtain ⟨rfl, _⟩ := h; rfl) | (obtain ⟨_, rfl, _⟩ := h; rfl) | (obtain ⟨_, _, rfl, _⟩ := h; rfl) | (obtain ⟨_, _, _, rfl, _⟩ := h; rfl) | (obtain ⟨_, _, _, _, rfl, _⟩ := h; rfl) | (obtain ⟨_, _, _, _, _, rfl, _⟩ := h; rfl) | (obtain ⟨_, _, _, _, _, _, rfl, _⟩ := h; rfl) | (obtain ⟨_, _, _, _, _, _, _, rfl, _⟩ := h; rfl) | (obtain ⟨_, _, _, _, _, _, _, _, rfl, _⟩ := h; rfl) | (obtain ⟨_, _, _, _, _, _, _, _, _, rfl, _⟩ := h; rfl) | (obtain ⟨_, _, _, _, _, _, _, _, _, _, rfl, _⟩ := h; rfl) | (obtain ⟨_, _, _, _, _, _, _, _, _, _, _, rfl, _⟩ := h; rfl) | (obtain ⟨_, _, _, _, _, _, _, _, _, _, _, _, rfl, _⟩ := h; rfl) | (obtain ⟨_, _, _, _, _, _, _, _, _, _, _, _, _, rfl, _⟩ := h; rfl) | (obtain ⟨_, _, _, _, _, _, _, _, _, _, _, _, _, _, rfl, _⟩ := h; rfl) | (obtain ⟨_, _, _, _, _, _, _, _, _, _, _, _, _, _, _, rfl, _⟩ := h; rfl) | (obtain ⟨_, _, _, _, _, _, _, _, _, _, _, _, _, _, _, _, rfl, _⟩ := h; rfl) | (obtain ⟨_, _, _, _, _, _, _, _, _, _, _, _, _, _, _, _, _, rfl, _⟩ := h; rfl) | (obtain ⟨_, _, _, _, _, _, _, _, _, _, _, _, _, _, _, _, _, _, rfl, _⟩ := h; rfl) | (obtain ⟨_, _, _, _, _, _, _, _, _, _, _, _, _, _, _, _, _, _, _, rfl, _⟩ := h; rfl) | (obtain ⟨_, _, _, _, _, _, _, _, _, _, _, _, _, _, _, _, _, _, _, _, rfl, _⟩ := h; rfl) | (obtain ⟨_, _, _, _, _, _, _, _, _, _, _, _, _, _, _, _, _, _, _, _, _, rfl, _⟩ := h; rfl) | (obtain ⟨_, _, _, _, _, _, _, _, _, _, _, _, _, _, _, _, _, _, _, _, _, _, rfl, _⟩ := h; rfl) | (obtain ⟨_, _, _, _, _, _, _, _, _, _, _, _, _, _, _, _, _, _, _, _, _, _, _, rfl, _⟩ := h; rfl)) (fun cdv A outer s H vs Q E hr tk pz h => ?_)
  have hu := hr.units
  have hrH := L2H.roomH_of hr
  obtain ⟨x, l, r, f, n, g, L, R, F, rfl, hO, h1, h2⟩ := h
  have hx := hO.1.1.choose_spec
  refine ⟨_, (pss_cons (ps_expr (pe_callA G_check_gap (Room.mono hr (by decide)) T.n_check_gap tk (pa_cons (pe_fld (pv 0) rfl) (pa_cons (pv 1) pa_nil))))
      (pss_cons (ps_if (pt_tru (pe_callA G_left_holds (Room.mono hr (by decide)) T.n_left_holds tk (pa_cons (pv 0) (pa_cons (pv 1) pa_nil)))) (pss_one (ps_ret (pe_ifExp (pt_tru (pe_callA G_right_holds (Room.mono hr (by decide)) T.n_right_holds tk (pa_cons (pv 0) (pa_cons (pv 1) pa_nil)))) pe_str pe_str))) pss_nil)
      (pss_one (ps_ret (pe_ifExp (pt_tru (pe_callA G_right_holds (Room.mono hr (by decide)) T.n_right_holds tk (pa_cons (pv 0) (pa_cons (pv 1) pa_nil)))) pe_str pe_str))))), ?_⟩
  show (_ : Ends → L2.St → Hp → Prop) _ [some _, some _] _
  try dsimp only [L2H.cxH, cxOf]
  walk_at "w"
  refine ⟨n, g, rfl, h1, fun g0 g1 => ?_⟩
  have k := h2 g0 g1
  unfold stateOf at k
  walk_at "w"
  refine ⟨x, l, r, f, n, g, L, R, F, rfl, hO, g0, g1, ?_⟩
  walk_at "w"
  refine w_ite (fun c1 => ?_) (fun c1 => ?_)
  · rw [if_pos c1] at k
    walk_at "w"
    refine ⟨x, l, r, f, n, g, L, R, F, rfl, hO, g0, g1, ?_⟩
    walk_at "w"
    refine w_ite (fun c2 => ?_) (fun c2 => ?_)
    · rw [if_pos c2] at k
      walk_at "w"
      exact k
    · rw [if_neg c2] at k
      walk_at "w"
      exact k
  · rw [if_neg c1] at k
    walk_at "w"
    refine ⟨x, l, r, f, n, g, L, R, F, rfl, hO, g0, g1, ?_⟩
    walk_at "w"
    refine w_ite (fun c2 => ?_) (fun c2 => ?_)
    · rw [if_pos c2] at k
      walk_at "w"
      exact k
    · rw [if_neg c2] at k
      walk_at "w"
      exact k
def statesOf (n : Int) (R L : List Int) : List Str := (List.range (n + 1).toNat).map fun i : Nat => stateOf R L (i : Int)
def lostF (n : Int) (R L : List Int) : List Int := (List.range (n + 1).toNat).filterMap fun i : Nat => if stateOf R L (i : Int) = ("lost" : Str) then some (i : Int) else none
def soleF (n : Int) (R L : List Int) : List Int := (List.range n.toNat).filterMap fun i : Nat => if stateOf R L (i : Int) = ("right" : Str) ∨ stateOf R L (1 + (i : Int)) = ("left" : Str) then some (1 + (i : Int)) else none
theorem statesOf_get {n : Int} {R L : List Int} {i : Nat} (h : i < (n + 1).toNat) : (statesOf n R L)[i]? = some (stateOf R L (i : Int)) := by
  unfold statesOf
  rw [List.getElem?_map, List.getElem?_range h]; rfl
theorem statesOf_getD {n : Int} {R L : List Int} {i : Nat} (h : i < (n + 1).toNat) : (statesOf n R L).getD i default = stateOf R L (i : Int) := by
  rw [List.getD_eq_getElem?_getD, statesOf_get h]; rfl
theorem statesOf_len (n : Int) (R L : List Int) : (statesOf n R L).length = (n + 1).toNat := by
  unfold statesOf
  rw [List.length_map, List.length_range]
def sp_gap_states (a : AD) : Sp := fun vs H Q E => ∃ (x l r f : Addr) (n : Int) (L R : List Int) (F : List Bool), vs = [.ref x] ∧ Obj a H x l r f n L R F ∧ ∀ p H', H p = none → Kp [] H H' → H' p = some (.lst ((statesOf n R L).map V.str)) → Q (.ref p) H'
theorem sc_gap_states : FnScope ["links", "gap"] ["links"] (defScope s_gap_states) := ⟨rfl, rfl, rfl, by decide +kernel, rfl, by decide +kernel, by decide +kernel⟩
theorem ok_gap_states {P : Program} {w : World} {K : PySem.W.Frag} {mg : Str → Option Value} {base : Heap} {a : AD} (T : Txt P K mg a) (G_gap_state : FnA P w K mg base 4 a.f_gap_state ["links", "gap"] (sp_gap_state a)) : FnA P w K mg base 5 a.f_gap_states ["links"] (sp_gap_states a) := by
  obtain ⟨fd, F, b⟩ := T.F_gap_states
  refine FnA.of F sc_gap_states b (fun vs H Q E h => by first | (obtain ⟨rfl, _⟩ := h; rfl) | (obtain ⟨_, rfl, _⟩ := h; rfl) | (obtain ⟨_, _, rfl, _⟩ := h; rfl) | (obtain ⟨_, _, _, rfl, _⟩ := h; rfl) | (obtain ⟨_, _, _, _, rfl, _⟩ := h; rfl) | (obtain ⟨_, _, _, _, _, rfl, _⟩ := h; rfl) | (obtain ⟨_, _, _, _, _, _, rfl, _⟩ := h; rfl) | (obtain ⟨_, _, _, _, _, _, _, rfl, _⟩ := h; rfl) | (obtain ⟨_, _, _, _, _, _, _, _, rfl, _⟩ := h; rfl) | (obtain ⟨_, _, _, _, _, _, _, _, _, rfl, _⟩ := h; rfl) | (obtain ⟨_, _, _, _, _, _, _, _, _, _, rfl, _⟩ := h; rfl) | (obtain ⟨_, _, _, _, _, _, _, _, _, _, _, rfl, _⟩ := h; rfl) | (obtain ⟨_, _, _, _, _, _, _, _, _, _, _, _, rfl, _⟩ := h; rfl) | (obtain ⟨_, _, _, _, _, _, _, _, _, _, _, _, _, rfl, _⟩ := h; rfl) | (obtain ⟨_, _, _, _, _, _, _, _, _, _, _, _, _, _, rfl, _⟩ := h; rfl) | (obtain ⟨_, _, _, _, _, _, _, _, _, _, _, _, _, _, _, rfl, _⟩ := h; rfl) | (obtain ⟨_, _, _, _, _, _, _, _, _, _, _, _, _, _, _, _, rfl, _⟩ := h; rfl) | (obtain ⟨_, _, _, _, _, _, _, _, _, _, _, _, _, _, _, _, _, rfl, _⟩ := h; rfl) | (obtain ⟨_, _, _, _, _, _, _, _, _, _, _, _, _, _, _, _, _, _, rfl, _⟩ := h; rfl) | (obtain ⟨_, _, _, _, _, _, _, _, _, _, _, _, _, _, _, _, _, _, _, rfl, _⟩ := h; rfl) | (obtain ⟨_, _, _, _, _, _, _, _, _, _, _, _, _, _, _, _, _, _, _, _, rfl, _⟩ := h; rfl) | (obtain ⟨_, _, _, _, _, _, _, _, _, _, _, _, _, _, _, _, _, _, _, _, _, rfl, _⟩ := h; rfl) | (obtain ⟨_, _, _, _, _, _, _, _, _, _, _, _, _, _, _, _, _, _, _, _, _, _, rfl, _⟩ := h; rfl) | (obtain ⟨_, _, _, _, _, _, _, _, _, _, _, _, _, _, _, _, _, _, _, _, _, _, _, rfl, _⟩ := h; rfl)) (fun cdv A outer s H vs Q E hr tk pz h => ?_)
  have hu := hr.units
  have hrH := L2H.roomH_of hr
  obtain ⟨x, l, r, f, n, L, R, F, rfl, hO, k⟩ := h
  have hx := hO.1.1.choose_spec
  have n0 := hO.2.1
  have n1 := hO.2.2.1
  refine ⟨_, (pss_one (ps_ret (pe_lc (own := [("gap", 1)]) (g := (gName 1)) (tt := tYes) rfl sc_gap_states.nd (pi_range1 rfl T.b_range (pa_cons (pe_op o_add (pe_fld (pv 0) rfl) pe_int) pa_nil)) (blkOk_by (own := [("gap", 1)]) (N := ["links", "gap"]) (sc := defScope s_gap_states) (by decide +kernel)) (fun _ _ _ _ _ => (pg_name (i := 1) sc_gap_states.nd rfl (Or.inl rfl))) (fun _ _ _ _ _ => pts_nil) (fun _ _ _ _ _ => (pe_callA G_gap_state (Room.mono hr (by decide)) T.n_gap_state takes0 (pa_cons (pv 0) (pa_cons (pv 1) pa_nil))))))), ?_⟩
  show (_ : Ends → L2.St → Hp → Prop) _ [some _, none] _
  try dsimp only [L2H.cxH, cxOf]
  walk_at "w"
  refine w_lcR1 (f' := V.str) (fun i : Nat => some (stateOf R L (i : Int))) (n := n + 1) (by omega) (by omega) (by rw [sizeLine_eq]; omega) ?_ ?_
  · intro D i acc H' hD hi hk hA hlen
    walk_at "w"
    refine ⟨rfl, ?_⟩
    walk_at "w"
    refine ⟨x, l, r, f, n, i, L, R, F, rfl, hO.kp0 hk, fun z => absurd ⟨by omega, by omega⟩ z, fun _ _ => ?_⟩
    exact w_keep hk hA hlen hD rfl
  · intro D H' hD hk hA
    rw [fm_some] at hA
    exact k D H' hD hk hA
theorem zip_states {n : Int} {R L : List Int} {β : Type} {ψ : Nat → Str → Option β} : ((statesOf n R L).zipIdx.filterMap fun q => ψ q.2 q.1) = (List.range (n + 1).toNat).filterMap fun i : Nat => ψ i (stateOf R L (i : Int)) := by
  have e : (statesOf n R L).zipIdx = (List.range (n + 1).toNat).map fun i : Nat => (stateOf R L (i : Int), i) := by
    apply List.ext_getElem?
    intro i
    rw [List.getElem?_zipIdx, List.getElem?_map]
    by_cases h : i < (n + 1).toNat
    · rw [statesOf_get h, List.getElem?_range h]
      simp
    · rw [List.getElem?_eq_none (by rw [statesOf_len]; omega), List.getElem?_eq_none (by simp; omega)]
      rfl
  rw [e, List.filterMap_map]
  rfl
def sp_lost_gaps (a : AD) : Sp := fun vs H Q E => ∃ (x l r f : Addr) (n : Int) (L R : List Int) (F : List Bool), vs = [.ref x] ∧ Obj a H x l r f n L R F ∧ ∀ p H', H p = none → Kp [] H H' → H' p = some (.lst ((lostF n R L).map V.int)) → Q (.ref p) H'
theorem sc_lost_gaps : FnScope ["links", "states", "gap", "state"] ["links"] (defScope s_lost_gaps) := ⟨rfl, rfl, rfl, by decide +kernel, rfl, by decide +kernel, by decide +kernel⟩
theorem ok_lost_gaps {P : Program} {w : World} {K : PySem.W.Frag} {mg : Str → Option Value} {base : Heap} {a : AD} (T : Txt P K mg a) (G_gap_states : FnA P w K mg base 5 a.f_gap_states ["links"] (sp_gap_states a)) : FnA P w K mg base 6 a.f_lost_gaps ["links"] (sp_lost_gaps a) := by
  obtain ⟨fd, F, b⟩ := T.F_lost_gaps
  refine FnA.of F sc_lost_gaps b (fun vs H Q E h => by first | (obtain ⟨rfl, _⟩ := h; rfl) | (obtain ⟨_, rfl, _⟩ := h; rfl) | (obtain ⟨_, _, rfl, _⟩ := h; rfl) | (obtain ⟨_, _, _, rfl, _⟩ := h; rfl) | (obtain ⟨_, _, _, _, rfl, _⟩ := h; rfl) | (obtain ⟨_, _, _, _, _, rfl, _⟩ := h; rfl) | (obtain ⟨_, _, _, _, _, _, rfl, _⟩ := h; rfl) | (obtain ⟨_, _, _, _, _, _, _, rfl, _⟩ := h; rfl) | (obtain ⟨_, _, _, _, _, _, _, _, rfl, _⟩ := h; rfl) | (obtain ⟨_, _, _, _, _, _, _, _, _, rfl, _⟩ := h; rfl) | (obtain ⟨_, _, _, _, _, _, _, _, _, _, rfl, _⟩ := h; rfl) | (obtain ⟨_, _, _, _, _, _, _, _, _, _, _, rfl, _⟩ := h; rfl) | (obtain ⟨_, _, _, _, _, _, _, _, _, _, _, _, rfl, _⟩ := h; rfl) | (obtain ⟨_, _, _, _, _, _, _, _, _, _, _, _, _, rfl, _⟩ := h; rfl) | (obtain ⟨_, _, _, _, _, _, _, _, _, _, _, _, _, _, rfl, _⟩ := h; rfl) | (obtain ⟨_, _, _, _, _, _, _, _, _, _, _, _, _, _, _, rfl, _⟩ := h; rfl) | (obtain ⟨_, _, _, _, _, _, _, _, _, _, _, _, _, _, _, _, rfl, _⟩ := h; rfl) | (obtain ⟨_, _, _, _, _, _, _, _, _, _, _, _, _, _, _, _, _, rfl, _⟩ := h; rfl) | (obtain ⟨_, _, _, _, _, _, _, _, _, _, _, _, _, _, _, _, _, _, rfl, _⟩ := h; rfl) | (obtain ⟨_, _, _, _, _, _, _, _, _, _, _, _, _, _, _, _, _, _, _, rfl, _⟩ := h; rfl) | (obtain ⟨_, _, _, _, _, _, _, _, _, _, _, _, _, _, _, _, _, _, _, _, rfl, _⟩ := h; rfl) | (obtain ⟨_, _, _, _, _, _, _, _, _, _, _, _, _, _, _, _, _, _, _, _, _, rfl, _⟩ := h; rfl) | (obtain ⟨_, _, _, _, _, _, _, _, _, _, _, _, _, _, _, _, _, _, _, _, _, _, rfl, _⟩ := h; rfl) | (obtain ⟨_, _, _, _, _, _, _, _, _, _, _, _, _, _, _, _, _, _, _, _, _, _, _, rfl, _⟩ := h; rfl)) (fun cdv A outer s H vs Q E hr tk pz h => ?_)
  have hu := hr.units
  have hrH := L2H.roomH_of hr
  obtain ⟨x, l, r, f, n, L, R, F, rfl, hO, k⟩ := h
  have n1 := hO.2.2.1
  refine ⟨_, (pss_cons (ps_set (i := 1) sc_lost_gaps.nd rfl (Or.inl rfl) (pe_callA G_gap_states (Room.mono hr (by decide)) T.n_gap_states tk (pa_cons (pv 0) pa_nil)))
      (pss_one (ps_ret (pe_lc (own := [("gap", 2), ("state", 3)]) (g := (gTup K 2 (gCons (gName 2) (gCons (gName 3) gNil)))) rfl sc_lost_gaps.nd (pi_enum rfl T.b_enumerate (pa_cons (pv 1) pa_nil)) (blkOk_by (own := [("gap", 2), ("state", 3)]) (N := ["links", "states", "gap", "state"]) (sc := defScope s_lost_gaps) (by decide +kernel)) (fun _ _ _ _ _ => (pg_tup rfl (pgs_cons (pg_name (i := 2) sc_lost_gaps.nd rfl (Or.inl rfl)) (pgs_cons (pg_name (i := 3) sc_lost_gaps.nd rfl (Or.inl rfl)) pgs_nil)))) (fun _ _ _ _ _ => (pts_one (pt_cmpA (show OpR _ _ (aEq K) from (o_eq hu)) (pv 3) pe_str (nomark _)))) (fun _ _ _ _ _ => (pv 2)))))), ?_⟩
  show (_ : Ends → L2.St → Hp → Prop) _ [some _, none, none, none] _
  try dsimp only [L2H.cxH, cxOf]
  walk_at "w"
  refine ⟨x, l, r, f, n, L, R, F, rfl, hO, fun p H1 hp k1 hp1 => ?_⟩
  have hsl := statesOf_len n R L
  walk_at "w"
  refine w_lcE (f := V.str) (f' := V.int) (fun i s => if s = ("lost" : Str) then some (i : Int) else none) hp1 (by rw [sizeLine_eq]; omega) ?_ ?_
  · intro D i u T acc H' hD hu hk hA hlen hT hTD
    refine ⟨rfl, ?_⟩
    walk_at "w"
    refine w_ite (fun c => ?_) (fun c => ?_)
    · walk_at "w"
      exact w_keep (hk.new hT) (upd_get (Ne.symm hTD) hA) hlen hD (by rw [if_pos c])
    · walk_at "w"
      exact w_drop (hk.new hT) (upd_get (Ne.symm hTD) hA) (by rw [if_neg c])
  · intro D H' hD hk hA
    rw [zip_states (ψ := fun i s => if s = ("lost" : Str) then some (i : Int) else none)] at hA
    exact k D H' (k1.free hD) (k1.trans hk) hA
def sp_sole_holders (a : AD) : Sp := fun vs H Q E => ∃ (x l r f : Addr) (n : Int) (L R : List Int) (F : List Bool), vs = [.ref x] ∧ Obj a H x l r f n L R F ∧ ∀ p H', H p = none → Kp [] H H' → H' p = some (.lst ((soleF n R L).map V.int)) → Q (.ref p) H'
theorem state_left {R L : List Int} {g : Int} : stateOf R L g = ("left" : Str) ↔ R.getD g.toNat default = g + 1 ∧ ¬L.getD (g + 1).toNat default = g := by
  have n1 : ¬("joined" : Str) = ("left" : Str) := by decide
  have n2 : ¬("right" : Str) = ("left" : Str) := by decide
  have n3 : ¬("lost" : Str) = ("left" : Str) := by decide
  unfold stateOf
  by_cases c1 : R.getD g.toNat default = g + 1
  · rw [if_pos c1]
    by_cases c2 : L.getD (g + 1).toNat default = g
    · rw [if_pos c2]; exact ⟨fun z => absurd z n1, fun z => absurd c2 z.2⟩
    · rw [if_neg c2]; exact ⟨fun _ => ⟨c1, c2⟩, fun _ => rfl⟩
  · rw [if_neg c1]
    by_cases c2 : L.getD (g + 1).toNat default = g
    · rw [if_pos c2]; exact ⟨fun z => absurd z n2, fun z => absurd z.1 c1⟩
    · rw [if_neg c2]; exact ⟨fun z => absurd z n3, fun z => absurd z.1 c1⟩
theorem state_right {R L : List Int} {g : Int} : stateOf R L g = ("right" : Str) ↔ ¬R.getD g.toNat default = g + 1 ∧ L.getD (g + 1).toNat default = g := by
  have n1 : ¬("joined" : Str) = ("right" : Str) := by decide
  have n2 : ¬("left" : Str) = ("right" : Str) := by decide
  have n3 : ¬("lost" : Str) = ("right" : Str) := by decide
  unfold stateOf
  by_cases c1 : R.getD g.toNat default = g + 1
  · rw [if_pos c1]
    by_cases c2 : L.getD (g + 1).toNat default = g
    · rw [if_pos c2]; exact ⟨fun z => absurd z n1, fun z => absurd c1 z.1⟩
    · rw [if_neg c2]; exact ⟨fun z => absurd z n2, fun z => absurd z.2 c2⟩
  · rw [if_neg c1]
    by_cases c2 : L.getD (g + 1).toNat default = g
    · rw [if_pos c2]; exact ⟨fun _ => ⟨c1, c2⟩, fun _ => rfl⟩
    · rw [if_neg c2]; exact ⟨fun z => absurd z n3, fun z => absurd z.2 c2⟩
theorem state_app {n : Int} {R L : List Int} {F : List Bool} (w : WF n R L F) {g : Nat} (h : g < (n + 1).toNat) {x : Int} : stateOf (R ++ [x]) L (g : Int) = stateOf R L (g : Int) := by
  have e : (R ++ [x]).getD (g : Int).toNat default = R.getD (g : Int).toNat default := by
    rw [List.getD_eq_getElem?_getD, List.getD_eq_getElem?_getD, List.getElem?_append_left (by rw [w.hR]; omega)]
  unfold stateOf
  rw [e]
theorem states_app {n : Int} {R L : List Int} {F : List Bool} (w : WF n R L F) {x : Int} : statesOf n (R ++ [x]) L = statesOf n R L := by
  unfold statesOf
  apply List.map_congr_left
  intro i hi
  rw [List.mem_range] at hi
  exact state_app w hi
theorem lost_app {n : Int} {R L : List Int} {F : List Bool} (w : WF n R L F) {x : Int} : lostF n (R ++ [x]) L = lostF n R L := by
  unfold lostF
  apply fm_congr
  intro i hi
  rw [List.mem_range] at hi
  rw [state_app w hi]
theorem sole_app {n : Int} {R L : List Int} {F : List Bool} (w : WF n R L F) {x : Int} : soleF n (R ++ [x]) L = soleF n R L := by
  have n0 := w.n0
  unfold soleF
  apply fm_congr
  intro i hi
  rw [List.mem_range] at hi
  rw [state_app w (by omega), show 1 + (i : Int) = ((i + 1 : Nat) : Int) by omega, state_app w (by omega)]
def soleK (R L : List Int) (k : Nat) : List Int := (List.range k).filterMap fun i : Nat => if stateOf R L (i : Int) = ("right" : Str) ∨ stateOf R L (1 + (i : Int)) = ("left" : Str) then some (1 + (i : Int)) else none
theorem soleK_succ (R L : List Int) (k : Nat) : soleK R L (k + 1) = soleK R L k ++ (if stateOf R L (k : Int) = ("right" : Str) ∨ stateOf R L (1 + (k : Int)) = ("left" : Str) then [1 + (k : Int)] else []) := by
  unfold soleK
  rw [List.range_succ, List.filterMap_append]
  congr 1
  rw [List.filterMap_cons, List.filterMap_nil]
  by_cases z : stateOf R L (k : Int) = ("right" : Str) ∨ stateOf R L (1 + (k : Int)) = ("left" : Str)
  · rw [if_pos z, if_pos z]
  · rw [if_neg z, if_neg z]
theorem soleK_len (R L : List Int) (k : Nat) : (soleK R L k).length ≤ k := by
  have := fm_len (fun i : Nat => if stateOf R L (i : Int) = ("right" : Str) ∨ stateOf R L (1 + (i : Int)) = ("left" : Str) then some (1 + (i : Int)) else none) (List.range k)
  rw [List.length_range] at this
  exact this
theorem lostF_len (n : Int) (R L : List Int) : (lostF n R L).length ≤ (n + 1).toNat := by
  have := fm_len (fun i : Nat => if stateOf R L (i : Int) = ("lost" : Str) then some (i : Int) else none) (List.range (n + 1).toNat)
  rw [List.length_range] at this
  exact this

/-! ### the law's own standing: [size, rights, lefts, flags] -/
def Wd (H : Hp) (w r l f : Addr) (n : Int) (R L : List Int) (F : List Bool) : Prop := H w = some (.lst [.int n, .ref r, .ref l, .ref f]) ∧ H r = some (.lst (R.map V.int)) ∧ H l = some (.lst (L.map V.int)) ∧ H f = some (.lst (F.map V.bl)) ∧ w ≠ r ∧ w ≠ l ∧ w ≠ f ∧ r ≠ l ∧ r ≠ f ∧ l ≠ f
theorem Wd.kp {ms : List Addr} {H H' : Hp} {w r l f : Addr} {n : Int} {R L : List Int} {F : List Bool} (h : Wd H w r l f n R L F) (k : Kp ms H H') (h1 : w ∉ ms) (h2 : r ∉ ms) (h3 : l ∉ ms) (h4 : f ∉ ms) : Wd H' w r l f n R L F :=
  ⟨k.at h.1 h1, k.at h.2.1 h2, k.at h.2.2.1 h3, k.at h.2.2.2.1 h4, h.2.2.2.2⟩
theorem Wd.kp0 {H H' : Hp} {w r l f : Addr} {n : Int} {R L : List Int} {F : List Bool} (h : Wd H w r l f n R L F) (k : Kp [] H H') : Wd H' w r l f n R L F := h.kp k List.not_mem_nil List.not_mem_nil List.not_mem_nil List.not_mem_nil
/-! ### a drawn standing -/
/-- as WF, but the flags are of the law's own list -/
theorem rep_get {α : Type} [Inhabited α] {n i : Nat} {u : α} (h : i < n) : (List.replicate n u).getD i default = u := by
  simp [List.getD, List.getElem?_replicate, h]
theorem fm_rep {β : Type} {b : β} : ∀ {k : Nat}, (List.range k).filterMap (fun _ => some b) = List.replicate k b
  | 0 => rfl
  | k + 1 => by rw [List.range_succ, List.filterMap_append, fm_rep, List.replicate_succ']; rfl
def r0 (n : Int) : List Int := (List.range (n + 1).toNat).map fun i : Nat => (i : Int) + 1
def l0 (n : Int) : List Int := (List.range (n + 2).toNat).map fun i : Nat => (i : Int) - 1
theorem wf0 {n : Int} (n0 : 0 ≤ n) (n1 : n ≤ 60) : WF n (r0 n) (l0 n) (List.replicate (n + 2).toNat false) where
  n0 := n0
  n1 := n1
  hR := by simp [r0]
  hL := by simp [l0]
  hF := by simp
  r := fun i u h => by
    unfold r0 at h
    rw [List.getElem?_map] at h
    by_cases z : i < (n + 1).toNat
    · rw [List.getElem?_range z] at h
      have h : (i : Int) + 1 = u := Option.some.inj h
      omega
    · rw [List.getElem?_eq_none (by simp; omega)] at h
      cases h
  l0 := by
    unfold l0
    rw [List.getElem?_map, List.getElem?_range (by omega)]; rfl
  l := fun i u hi h => by
    unfold l0 at h
    rw [List.getElem?_map] at h
    by_cases z : i < (n + 2).toNat
    · rw [List.getElem?_range z] at h
      have h : (i : Int) - 1 = u := Option.some.inj h
      omega
    · rw [List.getElem?_eq_none (by simp; omega)] at h
      cases h
  f0 := rep_get (by omega)
  f1 := rep_get (by omega)
theorem get_set {us : List Int} {i j : Nat} {u v : Int} (h : (us.set i u)[j]? = some v) : (i = j ∧ v = u) ∨ (i ≠ j ∧ us[j]? = some v) := by
  by_cases z : i = j
  · subst z
    rw [List.getElem?_set_self'] at h
    cases q : us[i]? with
    | none => rw [q] at h; cases h
    | some x => rw [q] at h; cases h; exact .inl ⟨rfl, rfl⟩
  · rw [List.getElem?_set_ne z] at h
    exact .inr ⟨z, h⟩
theorem WF.setR {n : Int} {R L : List Int} {F : List Bool} (w : WF n R L F) {i : Nat} {u : Int} (h : (i : Int) < u ∧ u ≤ n + 1) : WF n (R.set i u) L F := by
  refine ⟨w.n0, w.n1, by rw [List.length_set]; exact w.hR, w.hL, w.hF, fun j v e => ?_, w.l0, w.l, w.f0, w.f1⟩
  rcases get_set e with ⟨rfl, rfl⟩ | ⟨_, e⟩
  · exact h
  · exact w.r j v e
theorem WF.setL {n : Int} {R L : List Int} {F : List Bool} (w : WF n R L F) {i : Nat} {u : Int} (h : 1 ≤ i) (h2 : 0 ≤ u ∧ u < (i : Int)) : WF n R (L.set i u) F := by
  refine ⟨w.n0, w.n1, w.hR, by rw [List.length_set]; exact w.hL, w.hF, w.r, by rw [List.getElem?_set_ne (by omega)]; exact w.l0, fun j v hj e => ?_, w.f0, w.f1⟩
  rcases get_set e with ⟨rfl, rfl⟩ | ⟨_, e⟩
  · exact h2
  · exact w.l j v hj e
theorem WF.setF {n : Int} {R L : List Int} {F : List Bool} (w : WF n R L F) {i : Nat} {u : Bool} (h : 1 ≤ i) (h2 : (i : Int) ≤ n) : WF n R L (F.set i u) :=
  ⟨w.n0, w.n1, w.hR, w.hL, by rw [List.length_set]; exact w.hF, w.r, w.l0, w.l, by rw [getD_set_ne (by omega)]; exact w.f0, by rw [getD_set_ne (by omega)]; exact w.f1⟩
/-- the law's step -/
def stR (R L : List Int) (o : Int) : List Int := R.set (L.getD o.natAbs default).toNat (if o < 0 then R.getD o.natAbs default else (o.natAbs : Int))
theorem WF.at {n : Int} {R L : List Int} {F : List Bool} (w : WF n R L F) {v : Nat} (h1 : 1 ≤ v) (h2 : (v : Int) ≤ n) : 0 ≤ L.getD v default ∧ L.getD v default < (v : Int) ∧ (v : Int) < R.getD v default ∧ R.getD v default ≤ n + 1 := by
  have hl : v < L.length := by rw [w.hL]; omega
  have hr : v < R.length := by rw [w.hR]; omega
  have a1 := w.l v _ h1 (getD_some hl)
  have a2 := w.r v _ (getD_some hr)
  omega
theorem WF.ap {n : Int} {R L : List Int} {F : List Bool} (w : WF n R L F) {o : Int} (h : IsOp n o) : WF n (apR L R o) (apL L R o) (apF F o) := by
  have h1 := h.1
  have h2 := h.2
  have q := w.at (v := o.natAbs) (by omega) h2
  unfold apR apL apF
  have wr : WF n (R.set (L.getD o.natAbs default).toNat (if o < 0 then R.getD o.natAbs default else (o.natAbs : Int))) L F := w.setR (by split <;> omega)
  have wl := wr.setL (i := (R.getD o.natAbs default).toNat) (u := if o < 0 then L.getD o.natAbs default else (o.natAbs : Int)) (by omega) (by split <;> omega)
  exact wl.setF (by omega) (by omega)
/-! ### apart -/
theorem sep_of {H : Hp} {xs ys : List Addr} (fresh : ∀ x ∈ xs, H x = none) (live : ∀ y ∈ ys, ∃ o, H y = some o) : ∀ x ∈ xs, x ∉ ys := fun x hx hy => by
  obtain ⟨o, e⟩ := live x hy
  rw [fresh x hx] at e; cases e
theorem sep_of' {H : Hp} {xs ys : List Addr} (live : ∀ y ∈ xs, ∃ o, H y = some o) (fresh : ∀ x ∈ ys, H x = none) : ∀ x ∈ xs, x ∉ ys := fun x hx hy => by
  obtain ⟨o, e⟩ := live x hx
  rw [fresh x hy] at e; cases e
theorem Lnk.live {a : AD} {H : Hp} {x l r f : Addr} {n : Int} {L R : List Int} {F : List Bool} (h : Lnk a H x l r f n L R F) : ∀ y ∈ [x, l, r, f], ∃ o, H y = some o := by
  obtain ⟨⟨dx, h1⟩, h2, h3, h4, _⟩ := h
  intro y hy
  simp only [List.mem_cons, List.mem_nil_iff, or_false] at hy
  rcases hy with rfl | rfl | rfl | rfl
  · exact ⟨_, h1⟩
  · exact ⟨_, h2⟩
  · exact ⟨_, h3⟩
  · exact ⟨_, h4⟩
theorem Wd.live {H : Hp} {w r l f : Addr} {n : Int} {R L : List Int} {F : List Bool} (h : Wd H w r l f n R L F) : ∀ y ∈ [w, r, l, f], ∃ o, H y = some o := by
  obtain ⟨h1, h2, h3, h4, _⟩ := h
  intro y hy
  simp only [List.mem_cons, List.mem_nil_iff, or_false] at hy
  rcases hy with rfl | rfl | rfl | rfl
  · exact ⟨_, h1⟩
  · exact ⟨_, h2⟩
  · exact ⟨_, h3⟩
  · exact ⟨_, h4⟩
theorem four {H : Hp} {x l r f : Addr} (h1 : H x = none) (h2 : H l = none) (h3 : H r = none) (h4 : H f = none) : ∀ y ∈ [x, l, r, f], H y = none := by
  intro y hy
  simp only [List.mem_cons, List.mem_nil_iff, or_false] at hy
  rcases hy with rfl | rfl | rfl | rfl <;> assumption
theorem Lnk.kpS {a : AD} {ms : List Addr} {H H' : Hp} {x l r f : Addr} {n : Int} {L R : List Int} {F : List Bool} (h : Lnk a H x l r f n L R F) (k : Kp ms H H') (s : ∀ y ∈ [x, l, r, f], y ∉ ms) : Lnk a H' x l r f n L R F :=
  h.kp k (s x (by simp)) (s l (by simp)) (s r (by simp)) (s f (by simp))
theorem Wd.kpS {ms : List Addr} {H H' : Hp} {w r l f : Addr} {n : Int} {R L : List Int} {F : List Bool} (h : Wd H w r l f n R L F) (k : Kp ms H H') (s : ∀ y ∈ [w, r, l, f], y ∉ ms) : Wd H' w r l f n R L F :=
  h.kp k (s w (by simp)) (s r (by simp)) (s l (by simp)) (s f (by simp))
theorem sep_sub {xs ys zs : List Addr} (s : ∀ x ∈ xs, x ∉ ys) (h : ∀ z ∈ zs, z ∈ ys) : ∀ x ∈ xs, x ∉ zs := fun x hx hz => s x hx (h x hz)
theorem sep_mono {xs ys xs' ys' : List Addr} (s : ∀ x ∈ xs, x ∉ ys) (h1 : ∀ z ∈ xs', z ∈ xs) (h2 : ∀ z ∈ ys', z ∈ ys) : ∀ x ∈ xs', x ∉ ys' := fun x hx hz => s x (h1 x hx) (h2 x hz)
theorem sep_swap {xs ys : List Addr} (s : ∀ x ∈ xs, x ∉ ys) : ∀ y ∈ ys, y ∉ xs := fun y hy hx => s y hx hy
theorem ap_app {n : Int} {R L : List Int} {F : List Bool} (w : WF n R L F) {o x : Int} (h : IsOp n o) : apR L (R ++ [x]) o = apR L R o ++ [x] ∧ apL L (R ++ [x]) o = apL L R o := by
  have h2 := h.2
  have h1 := h.1
  have q := w.at (v := o.natAbs) (by omega) h2
  have hR := w.hR
  have e : (R ++ [x]).getD o.natAbs default = R.getD o.natAbs default := by
    rw [List.getD_eq_getElem?_getD, List.getD_eq_getElem?_getD, List.getElem?_append_left (by omega)]
  unfold apR apL
  rw [e, List.set_append_left _ _ (by omega)]
  exact ⟨rfl, rfl⟩

/-! ### changes of gaps -/
def sp_Links_operation_on (a : AD) : Sp := fun vs H Q E => ∃ (x l r f : Addr) (n v : Int) (L R : List Int) (F : List Bool), vs = [.ref x, .int v] ∧ Obj a H x l r f n L R F ∧ 0 ≤ v ∧ v ≤ n + 1 ∧ Q (.int (if F.getD v.toNat default = true then v else -v)) H
def sp_touched_gaps (a : AD) : Sp := fun vs H Q E => ∃ (x l r f : Addr) (n v : Int) (L R : List Int) (F : List Bool), vs = [.ref x, .int v] ∧ Obj a H x l r f n L R F ∧ 1 ≤ v ∧ v ≤ n ∧ ∀ p, H p = none → Q (.ref p) (upd H p (.lst ([L.getD v.toNat default, R.getD v.toNat default - 1].map V.int)))
/-- the changes at the touched gaps -/
def chgAt (R L R' L' : List Int) (g : Int) : List (List V) := if stateOf R L g = stateOf R' L' g then [] else [[.int g, .str (stateOf R L g), .str (stateOf R' L' g)]]
def chgF (R L : List Int) (o : Int) : List (List V) := chgAt R L (apR L R o) (apL L R o) (L.getD o.natAbs default) ++ chgAt R L (apR L R o) (apL L R o) (R.getD o.natAbs default - 1)
/-- the refusals of an operation -/
def refuseSp (a : AD) (n o : Int) (F : List Bool) (H : Hp) (E : XK) (k : Prop) : Prop := (¬IsOp n o → xBadOperation a (.int o) (.int 0) E H) ∧ (IsOp n o → F.getD o.natAbs default = decide (o < 0) → xIllegal a (.int o) (.int 0) E H) ∧ (IsOp n o → F.getD o.natAbs default ≠ decide (o < 0) → k)
def sp_gap_changes (a : AD) : Sp := fun vs H Q E => ∃ (x l r f : Addr) (n o : Int) (L R : List Int) (F : List Bool), vs = [.ref x, .int o] ∧ Obj a H x l r f n L R F ∧
  refuseSp a n o F H E (0 ≤ L.getD o.natAbs default ∧ L.getD o.natAbs default ≤ n ∧ 1 ≤ R.getD o.natAbs default ∧ R.getD o.natAbs default ≤ n + 1 ∧ ∀ p xs H', H p = none → Kp [] H H' → H' p = some (.lst xs) → Tps H' xs (chgF R L o) → Q (.ref p) H')
/-- the gaps of the foreign writes -/
def frgF (R L : List Int) (v : Int) : List Int := (if L.getD v.toNat default ≠ v - 1 ∧ R.getD (L.getD v.toNat default).toNat default = L.getD v.toNat default + 1 then [L.getD v.toNat default] else []) ++
  (if R.getD v.toNat default ≠ v + 1 ∧ L.getD (R.getD v.toNat default).toNat default = R.getD v.toNat default - 1 then [R.getD v.toNat default - 1] else [])
def sp_foreign_writes (a : AD) : Sp := fun vs H Q E => ∃ (x l r f : Addr) (n o : Int) (L R : List Int) (F : List Bool), vs = [.ref x, .int o] ∧ Obj a H x l r f n L R F ∧
  refuseSp a n o F H E (0 ≤ L.getD o.natAbs default ∧ L.getD o.natAbs default ≤ n ∧ 1 ≤ R.getD o.natAbs default ∧ R.getD o.natAbs default ≤ n + 1 ∧ ∀ p H', H p = none → Kp [] H H' → H' p = some (.lst ((frgF R L (o.natAbs : Int)).map V.int)) → Q (.ref p) H')

/-! ### runs of operations -/
def stS (s : List Int × List Int × List Bool) (o : Int) : List Int × List Int × List Bool := (apR s.2.1 s.1 o, apL s.2.1 s.1 o, apF s.2.2 o)
def runS (s : List Int × List Int × List Bool) (log : List Int) : List Int × List Int × List Bool := log.foldl stS s
def OkAt (n : Int) (s : List Int × List Int × List Bool) (o : Int) : Prop := IsOp n o ∧ s.2.2.getD o.natAbs default ≠ decide (o < 0)
def WFs (n : Int) (s : List Int × List Int × List Bool) : Prop := WF n s.1 s.2.1 s.2.2
def okTo (n : Int) (s : List Int × List Int × List Bool) (log : List Int) (i : Nat) : Prop := ∀ (j : Nat) (o : Int), j < i → log[j]? = some o → OkAt n (runS s (log.take j)) o
theorem runS_snoc (s : List Int × List Int × List Bool) (l : List Int) (o : Int) : runS s (l ++ [o]) = stS (runS s l) o := by
  unfold runS
  rw [List.foldl_append]; rfl
theorem runS_wf {n : Int} {s : List Int × List Int × List Bool} {log : List Int} (w : WFs n s) : ∀ i, i ≤ log.length → okTo n s log i → WFs n (runS s (log.take i))
  | 0, _, _ => w
  | i + 1, hi, h => by
    have hu : log[i]? = some log[i] := List.getElem?_eq_getElem (by omega)
    have ih := runS_wf w i (by omega) (fun j o hj => h j o (by omega))
    rw [take_snoc hu, runS_snoc]
    exact WF.ap ih (h i _ (by omega) hu).1
/-- what a run over the log asks -/
def playSp (a : AD) (n : Int) (s : List Int × List Int × List Bool) (log : List Int) (H : Hp) (E : XK) (k : Prop) : Prop :=
  (∀ (i : Nat) (o : Int), log[i]? = some o → okTo n s log i → ¬IsOp n o → xBadOperation a (.int o) (.int (i : Int)) E H) ∧
  (∀ (i : Nat) (o : Int), log[i]? = some o → okTo n s log i → IsOp n o → (runS s (log.take i)).2.2.getD o.natAbs default = decide (o < 0) → xIllegal a (.int o) (.int (i : Int)) E H) ∧
  (okTo n s log log.length → k)
def sp_play (a : AD) : Sp := fun vs H Q E => ∃ (x l r f pl : Addr) (n : Int) (s : List Int × List Int × List Bool) (log : List Int), vs = [.ref x, .ref pl] ∧ Lnk a H x l r f n s.2.1 (s.1 ++ [n + 2]) s.2.2 ∧ WFs n s ∧ H pl = some (.lst (log.map V.int)) ∧ log.length ≤ 100000 ∧
  playSp a n s log H E (newSp a n (runS s log).2.1 ((runS s log).1 ++ [n + 2]) (runS s log).2.2 H Q)

/-! ### a new list -/
theorem gd_app {us : List Int} {x : Int} {i : Nat} (h : i < us.length) : (us ++ [x]).getD i default = us.getD i default := by
  rw [List.getD_eq_getElem?_getD, List.getD_eq_getElem?_getD, List.getElem?_append_left h]
theorem tps_app {H : Hp} {p T : Addr} {xs vs : List V} {ts : List (List V)} (hp : H p = some (.lst xs)) (h : Tps H xs ts) (hT : H T = none) : Tps (upd (upd H T (.tup vs)) p (.lst (xs ++ [.ref T]))) (xs ++ [.ref T]) (ts ++ [vs]) :=
  Tps.snoc ((h.new hT).mut (upd_new hT hp)) (upd_get (Ne.symm (ne_of_none hp hT)) upd_same)
theorem nm_sub {g : Addr} {xs ys : List Addr} (h : g ∉ ys) (s : ∀ z ∈ xs, z ∈ ys) : g ∉ xs := fun z => h (s _ z)
theorem nm_swap {q : Addr} {xs : List Addr} (h : q ∉ xs) : ∀ y ∈ xs, y ∉ [q] := fun y hy z => h (by rw [List.mem_singleton.mp z] at hy; exact hy)
/-- one fresh address is none of those that stand -/
theorem nm_of {H : Hp} {q : Addr} {ys : List Addr} (h : H q = none) (live : ∀ y ∈ ys, ∃ o, H y = some o) : q ∉ ys := fun z => by
  obtain ⟨o, e⟩ := live q z
  rw [h] at e; cases e
theorem rgI_l0 (n : Int) : rgI (-1) (n + 1) = l0 n := by
  unfold rgI l0
  rw [show (n + 1 - -1).toNat = (n + 2).toNat by omega]
  exact List.map_congr_left fun i _ => by omega
theorem rgI_r0 {n : Int} (n0 : 0 ≤ n) : rgI 1 (n + 3) = r0 n ++ [n + 2] := by
  unfold rgI r0
  rw [show (n + 3 - 1).toNat = (n + 1).toNat + 1 by omega, List.range_succ, List.map_append]
  refine congr (congrArg _ ?_) ?_
  · exact List.map_congr_left fun i _ => by omega
  · simp; omega
def s0 (n : Int) : List Int × List Int × List Bool := (r0 n, l0 n, List.replicate (n + 2).toNat false)
theorem wfs0 {n : Int} (n0 : 0 ≤ n) (n1 : n ≤ 60) : WFs n (s0 n) := wf0 n0 n1
/-- the object at x bears the standing s -/
def LkS (a : AD) (H : Hp) (x l r f : Addr) (n : Int) (s : List Int × List Int × List Bool) : Prop := Lnk a H x l r f n s.2.1 (s.1 ++ [n + 2]) s.2.2
theorem LkS.kp0 {a : AD} {H H' : Hp} {x l r f : Addr} {n : Int} {s : List Int × List Int × List Bool} (h : LkS a H x l r f n s) (k : Kp [] H H') : LkS a H' x l r f n s := Lnk.kp0 h k
theorem LkS.obj {a : AD} {H : Hp} {x l r f : Addr} {n : Int} {s : List Int × List Int × List Bool} (h : LkS a H x l r f n s) (W : WFs n s) : Obj a H x l r f n s.2.1 (s.1 ++ [n + 2]) s.2.2 :=
  ⟨h, WF.n0 W, WF.n1 W, WF.hL W, by rw [List.length_append, WF.hR W]; have := WF.n0 W; simp; omega, WF.hF W⟩
/-- what `Links(size)` asks -/
theorem mk_new {a : AD} {n : Int} {H : Hp} {Q : Addr → Hp → Prop} {E : XK} (hb : ¬(0 ≤ n ∧ n ≤ 60) → xBadSize a (.int n) E H) (k : 0 ≤ n → n ≤ 60 → ∀ (x l r f : Addr) (H' : Hp), H x = none → H l = none → H r = none → H f = none → LkS a H' x l r f n (s0 n) → Kp [] H H' → Q x H') :
    ∀ x dx, H x = none → H dx = none → dx ≠ x → sp_Links___init__ a (.ref x :: [.int n]) (upd (upd H dx (.own x)) x (.ins a.Links dx [])) (fun v H2 => v = .non ∧ Q x H2) E := by
  intro x dx hx hdx hne
  have kx : Kp [] H (upd (upd H dx (.own x)) x (.ins a.Links dx [])) := (Kp.refl.new hdx).own hx
  have fr : ∀ p, upd (upd H dx (.own x)) x (.ins a.Links dx []) p = none → H p = none := fun p h => kx.free h
  refine ⟨x, dx, n, rfl, upd_same, fun z d H' h1 h2 h3 => hb z d H' (fr d h1) h2 (kx.trans h3), fun n0 n1 l r f H1 hl hr hf hL k1 => ⟨rfl, ?_⟩⟩
  rw [rgI_l0, rgI_r0 n0] at hL
  have k0 : Kp [] H H1 := fun b o e _ => k1 b o (kx.at0 e) (by simp; intro z; subst z; rw [hx] at e; cases e)
  exact k n0 n1 x l r f H1 hx (fr l hl) (fr r hr) (fr f hf) hL k0
/-- one more operation of a log, on the object -/
theorem ap_step {a : AD} {H : Hp} {Q : VK} {E : XK} {x l r f : Addr} {n : Int} {s t : List Int × List Int × List Bool} {log : List Int} {i : Nat} {o : Int} (W : WFs n t) (hu : log[i]? = some o) (hok : okTo n t log i) (e : s = runS t (log.take i)) (hil : i ≤ log.length) (h : LkS a H x l r f n s)
    (hb : ¬IsOp n o → xBadOperation a (.int o) (.int (i : Int)) E H) (hi : IsOp n o → s.2.2.getD o.natAbs default = decide (o < 0) → xIllegal a (.int o) (.int (i : Int)) E H)
    (k : OkAt n s o → WFs n s → okTo n t log (i + 1) → ∀ H', LkS a H' x l r f n (stS s o) → Kp [l, r, f] H H' → Q .non H') : sp_Links_apply_at a [.ref x, .int o, .int (i : Int)] H Q E := by
  have Wi : WFs n s := e ▸ runS_wf W i hil hok
  have n0 := WF.n0 Wi
  have hR := WF.hR Wi
  have hL := WF.hL Wi
  refine ⟨x, l, r, f, n, o, i, _, _, _, rfl, h, hL, by rw [List.length_append, hR]; simp; omega, WF.hF Wi, hb, hi, fun hop hfl => ?_⟩
  have ho1 := hop.1
  have ho2 := hop.2
  have qa := WF.at Wi (v := o.natAbs) (by omega) ho2
  have eR : (s.1 ++ [n + 2]).getD o.natAbs default = s.1.getD o.natAbs default := by
    rw [List.getD_eq_getElem?_getD, List.getD_eq_getElem?_getD, List.getElem?_append_left (by omega)]
  refine ⟨by omega, by omega, by omega, by omega, fun H2 hY k2 => ?_⟩
  have ea := ap_app Wi (x := n + 2) hop
  rw [ea.1, ea.2] at hY
  refine k ⟨hop, hfl⟩ Wi (fun j p hj hp => ?_) H2 hY k2
  by_cases z : j < i
  · exact hok j p z hp
  · obtain rfl : j = i := by omega
    rw [hu] at hp
    cases hp
    rw [← e]
    exact ⟨hop, hfl⟩
/-- changes of a new object are none to the rest -/
theorem kp_new3 {H H1 H2 : Hp} {l r f : Addr} (k1 : Kp [] H H1) (hl : H l = none) (hr : H r = none) (hf : H f = none) (k2 : Kp [l, r, f] H1 H2) : Kp [] H H2 := fun b o e _ => k2 b o (k1.at0 e) (by
  intro z
  simp only [List.mem_cons, List.mem_nil_iff, or_false] at z
  rcases z with rfl | rfl | rfl
  · rw [hl] at e; cases e
  · rw [hr] at e; cases e
  · rw [hf] at e; cases e)

/-! ### logs -/
def sp__is_legal (a : AD) : Sp := fun vs H Q _ => ∃ (p : Addr) (fs : List Bool) (o : Int), vs = [.ref p, .int o] ∧ H p = some (.lst (fs.map V.bl)) ∧ o.natAbs < fs.length ∧ Q (.bl (!decide (fs.getD o.natAbs default = decide (o < 0)))) H
theorem sc__is_legal : FnScope ["flags", "operation", "is_unlink"] ["flags", "operation"] (defScope s__is_legal) := ⟨rfl, rfl, rfl, by decide +kernel, rfl, by decide +kernel, by decide +kernel⟩
theorem ok__is_legal {P : Program} {w : World} {K : PySem.W.Frag} {mg : Str → Option Value} {base : Heap} {a : AD} (T : Txt P K mg a) : FnA P w K mg base 2 a.f__is_legal ["flags", "operation"] (sp__is_legal a) := by
  obtain ⟨fd, F, b⟩ := T.F__is_legal
  refine FnA.of F sc__is_legal b (fun vs H Q E h => by first | (obtain ⟨rfl, _⟩ := h; rfl) | (obtain ⟨_, rfl, _⟩ := h; rfl) | (obtain ⟨_, _, rfl, _⟩ := h; rfl) | (obtain ⟨_, _, _, rfl, _⟩ := h; rfl) | (obtain ⟨_, _, _, _, rfl, _⟩ := h; rfl) | (obtain ⟨_, _, _, _, _, rfl, _⟩ := h; rfl) | (obtain ⟨_, _, _, _, _, _, rfl, _⟩ := h; rfl) | (obtain ⟨_, _, _, _, _, _, _, rfl, _⟩ := h; rfl) | (obtain ⟨_, _, _, _, _, _, _, _, rfl, _⟩ := h; rfl) | (obtain ⟨_, _, _, _, _, _, _, _, _, rfl, _⟩ := h; rfl) | (obtain ⟨_, _, _, _, _, _, _, _, _, _, rfl, _⟩ := h; rfl) | (obtain ⟨_, _, _, _, _, _, _, _, _, _, _, rfl, _⟩ := h; rfl) | (obtain ⟨_, _, _, _, _, _, _, _, _, _, _, _, rfl, _⟩ := h; rfl) | (obtain ⟨_, _, _, _, _, _, _, _, _, _, _, _, _, rfl, _⟩ := h; rfl) | (obtain ⟨_, _, _, _, _, _, _, _, _, _, _, _, _, _, rfl, _⟩ := h; rfl) | (obtain ⟨_, _, _, _, _, _, _, _, _, _, _, _, _, _, _, rfl, _⟩ := h; rfl) | (obtain ⟨_, _, _, _, _, _, _, _, _, _, _, _, _, _, _, _, rfl, _⟩ := h; rfl) | (obtain ⟨_, _, _, _, _, _, _, _, _, _, _, _, _, _, _, _, _, rfl, _⟩ := h; rfl) | (obtain ⟨_, _, _, _, _, _, _, _, _, _, _, _, _, _, _, _, _, _, rfl, _⟩ := h; rfl) | (obtain ⟨_, _, _, _, _, _, _, _, _, _, _, _, _, _, _, _, _, _, _, rfl, _⟩ := h; rfl) | (obtain ⟨_, _, _, _, _, _, _, _, _, _, _, _, _, _, _, _, _, _, _, _, rfl, _⟩ := h; rfl) | (obtain ⟨_, _, _, _, _, _, _, _, _, _, _, _, _, _, _, _, _, _, _, _, _, rfl, _⟩ := h; rfl) | (obtain ⟨_, _, _, _, _, _, _, _, _, _, _, _, _, _, _, _, _, _, _, _, _, _, rfl, _⟩ := h; rfl) | (obtain ⟨_, _, _, _, _, _, _, _, _, _, _, _, _, _, _, _, _, _, _, _, _, _, _, rfl, _⟩ := h; rfl)) (fun cdv A outer s H vs Q E hr tk pz h => ?_)
  have hu := hr.units
  have hrH := L2H.roomH_of hr
  obtain ⟨p, fs, o, rfl, hp, hl, k⟩ := h
  refine ⟨_, (pss_cons (ps_set (i := 2) sc__is_legal.nd rfl (Or.inl rfl) (pe_cmpR op_lt (pv 1) pe_int (nomark _)))
      (pss_one (ps_ret (pe_cmpR (o_ne hu) (pe_ix ix_seq (pv 0) (pe_callB (b_abs) rfl T.b_abs (by decide +kernel) (pa_cons (pv 1) pa_nil)) (fun _ _ => rfl)) (pv 2) (nomark _))))), ?_⟩
  show (_ : Ends → L2.St → Hp → Prop) _ [some _, some _, none] _
  try dsimp only [L2H.cxH, cxOf]
  walk_at "w"
  exact k
theorem getD_take {α : Type} [Inhabited α] {us : List α} {i k : Nat} (h : i < k) : (us.take k).getD i default = us.getD i default := by
  rw [List.getD_eq_getElem?_getD, List.getD_eq_getElem?_getD, List.getElem?_take_of_lt h]
def logSp (a : AD) (n : Int) (log : List Int) (H : Hp) (E : XK) (k : Prop) : Prop := (¬(0 ≤ n ∧ n ≤ 60) → xBadSize a (.int n) E H) ∧ (0 ≤ n → n ≤ 60 → playSp a n (s0 n) log H E k)
def sp_check_log (a : AD) : Sp := fun vs H Q E => ∃ (n : Int) (p : Addr) (log : List Int), vs = [.int n, .ref p] ∧ H p = some (.lst (log.map V.int)) ∧ log.length ≤ 100000 ∧ logSp a n log H E (∀ H', Kp [] H H' → Q .non H')
theorem sc_check_log : FnScope ["size", "log", "flags", "index", "operation"] ["size", "log"] (defScope s_check_log) := ⟨rfl, rfl, rfl, by decide +kernel, rfl, by decide +kernel, by decide +kernel⟩
theorem ok_check_log {P : Program} {w : World} {K : PySem.W.Frag} {mg : Str → Option Value} {base : Heap} {a : AD} (T : Txt P K mg a) (G_check_size : FnA P w K mg base 2 a.f_check_size ["size"] (sp_check_size a)) (G_check_operation : FnA P w K mg base 2 a.f_check_operation ["size", "operation", "index"] (sp_check_operation a)) (G__is_legal : FnA P w K mg base 2 a.f__is_legal ["flags", "operation"] (sp__is_legal a)) : FnA P w K mg base 3 a.f_check_log ["size", "log"] (sp_check_log a) := by
  obtain ⟨fd, F, b⟩ := T.F_check_log
  refine FnA.of F sc_check_log b (fun vs H Q E h => by first | (obtain ⟨rfl, _⟩ := h; rfl) | (obtain ⟨_, rfl, _⟩ := h; rfl) | (obtain ⟨_, _, rfl, _⟩ := h; rfl) | (obtain ⟨_, _, _, rfl, _⟩ := h; rfl) | (obtain ⟨_, _, _, _, rfl, _⟩ := h; rfl) | (obtain ⟨_, _, _, _, _, rfl, _⟩ := h; rfl) | (obtain ⟨_, _, _, _, _, _, rfl, _⟩ := h; rfl) | (obtain ⟨_, _, _, _, _, _, _, rfl, _⟩ := h; rfl) | (obtain ⟨_, _, _, _, _, _, _, _, rfl, _⟩ := h; rfl) | (obtain ⟨_, _, _, _, _, _, _, _, _, rfl, _⟩ := h; rfl) | (obtain ⟨_, _, _, _, _, _, _, _, _, _, rfl, _⟩ := h; rfl) | (obtain ⟨_, _, _, _, _, _, _, _, _, _, _, rfl, _⟩ := h; rfl) | (obtain ⟨_, _, _, _, _, _, _, _, _, _, _, _, rfl, _⟩ := h; rfl) | (obtain ⟨_, _, _, _, _, _, _, _, _, _, _, _, _, rfl, _⟩ := h; rfl) | (obtain ⟨_, _, _, _, _, _, _, _, _, _, _, _, _, _, rfl, _⟩ := h; rfl) | (obtain ⟨_, _, _, _, _, _, _, _, _, _, _, _, _, _, _, rfl, _⟩ := h; rfl) | (obtain ⟨_, _, _, _, _, _, _, _, _, _, _, _, _, _, _, _, rfl, _⟩ := h; rfl) | (obtain ⟨_, _, _, _, _, _, _, _, _, _, _, _, _, _, _, _, _, rfl, _⟩ := h; rfl) | (obtain ⟨_, _, _, _, _, _, _, _, _, _, _, _, _, _, _, _, _, _, rfl, _⟩ := h; rfl) | (obtain ⟨_, _, _, _, _, _, _, _, _, _, _, _, _, _, _, _, _, _, _, rfl, _⟩ := h; rfl) | (obtain ⟨_, _, _, _, _, _, _, _, _, _, _, _, _, _, _, _, _, _, _, _, rfl, _⟩ := h; rfl) | (obtain ⟨_, _, _, _, _, _, _, _, _, _, _, _, _, _, _, _, _, _, _, _, _, rfl, _⟩ := h; rfl) | (obtain ⟨_, _, _, _, _, _, _, _, _, _, _, _, _, _, _, _, _, _, _, _, _, _, rfl, _⟩ := h; rfl) | (obtain ⟨_, _, _, _, _, _, _, _, _, _, _, _, _, _, _, _, _, _, _, _, _, _, _, rfl, _⟩ := h; rfl)) (fun cdv A outer s H vs Q E hr tk pz h => ?_)
  have hu := hr.units
  have hrH := L2H.roomH_of hr
  obtain ⟨n, p, log, rfl, hp, hlen, hs, h⟩ := h
  refine ⟨_, (pss_cons (ps_expr (pe_callA G_check_size (Room.mono hr (by decide)) T.n_check_size tk (pa_cons (pv 0) pa_nil)))
      (pss_cons (ps_set (i := 2) sc_check_log.nd rfl (Or.inl rfl) (pe_op o_mul (pe_lst (pa_cons pe_bl pa_nil)) (pe_op o_add (pv 0) pe_int)))
      (pss_one (ps_for pz rfl (pi_enum rfl T.b_enumerate (pa_cons (pv 1) pa_nil)) (pg_tup (n := 2) rfl (pgs_cons (pg_name (i := 3) sc_check_log.nd rfl (Or.inl rfl)) (pgs_cons (pg_name (i := 4) sc_check_log.nd rfl (Or.inl rfl)) pgs_nil)))
      (pss_cons (ps_expr (pe_callA G_check_operation (Room.mono hr (by decide)) T.n_check_operation tk (pa_cons (pv 0) (pa_cons (pv 4) (pa_cons (pv 3) pa_nil)))))
      (pss_cons (ps_if (pt_not (pt_tru (pe_callA G__is_legal (Room.mono hr (by decide)) T.n__is_legal tk (pa_cons (pv 2) (pa_cons (pv 4) pa_nil))))) (pss_one (L2N.ps_raise rfl tk (Lk.pmk_own T.x_Illegal (List.cons_ne_nil _ _) hr T.c_Illegal (by exact (pa_cons (pv 4) (pa_cons (pv 3) pa_nil))) rfl))) pss_nil)
      (pss_one (ps_asg (pe_cmpR op_lt (pv 4) pe_int (nomark _)) (pg_sub (pv 2) (pe_callB (b_abs) rfl T.b_abs (by decide +kernel) (pa_cons (pv 4) pa_nil)) set_list))))))))), ?_⟩
  show (_ : Ends → L2.St → Hp → Prop) _ [some _, some _, none, none, none] _
  try dsimp only [L2H.cxH, cxOf]
  walk_at "w"
  refine ⟨n, rfl, hs, fun n0 n1 => ?_⟩
  obtain ⟨hb, hi, k⟩ := h n0 n1
  walk_at "w"
  intro q0 hq0
  walk_at "w"
  intro q hq
  have kq := (Kp.refl.new (ms := []) (o := .lst [.bl false]) hq0).new (o := .lst ((List.replicate (n + 1).toNat false).map V.bl)) hq
  have hqq : upd (upd H q0 (.lst [.bl false])) q (.lst ((List.replicate (n + 1).toNat false).map V.bl)) q = some (.lst (((runS (s0 n) (log.take 0)).2.2.take (n + 1).toNat).map V.bl)) := by
    rw [upd_same, List.take_zero]
    show some (HO.lst ((List.replicate (n + 1).toNat false).map V.bl)) = some (HO.lst (((List.replicate (n + 2).toNat false).take (n + 1).toNat).map V.bl))
    rw [List.take_replicate, Nat.min_eq_left (by omega)]
  have hqn : H q = none := upd_nil hq
  generalize upd (upd H q0 (.lst [.bl false])) q (.lst ((List.replicate (n + 1).toNat false).map V.bl)) = H1 at kq hqq ⊢
  walk_at "w"
  refine w_enumM (us := log) (f := V.int) (p := p) (kq.at0 hp) (fun i σ' H' => (∃ z1 z2, σ' = [some (.int n), some (.ref p), some (.ref q), z1, z2]) ∧ Kp [] H H' ∧ okTo n (s0 n) log i ∧ H' q = some (.lst (((runS (s0 n) (log.take i)).2.2.take (n + 1).toNat).map V.bl))) ⟨⟨_, _, rfl⟩, kq, fun j o hj => by omega, hqq⟩ (fun i σ' H' _ h => h.2.1.at0 hp) ?_ ?_
  · rintro i u T σ' H' hu ⟨⟨z1, z2, rfl⟩, hk, hok, hq2⟩ hT
    have hil : i < log.length := (List.getElem?_eq_some_iff.mp hu).1
    have Wi := runS_wf (wfs0 n0 n1) i (by omega) hok
    have hF := WF.hF Wi
    have hkT := hk.new (o := .tup [.int (i : Int), .int u]) hT
    have hqT : upd H' T (.tup [.int (i : Int), .int u]) q = some (.lst (((runS (s0 n) (log.take i)).2.2.take (n + 1).toNat).map V.bl)) := upd_new hT hq2
    generalize upd H' T (.tup [.int (i : Int), .int u]) = H2 at hkT hqT ⊢
    walk_at "w"
    refine ⟨n, u, i, rfl, fun z d H3 hd hd3 k3 => hb i u hu hok z d H3 (hkT.free hd) hd3 (hkT.trans k3), fun hop => ?_⟩
    have ho1 := hop.1
    have ho2 := hop.2
    walk_at "w"
    refine ⟨q, _, u, rfl, hqT, by rw [List.length_take]; omega, ?_⟩
    rw [getD_take (by omega)]
    by_cases c : (runS (s0 n) (log.take i)).2.2.getD u.natAbs default = decide (u < 0)
    · rw [show decide ((runS (s0 n) (log.take i)).2.2.getD u.natAbs default = decide (u < 0)) = true by simpa using c]
      walk_at "w"
      refine ⟨rfl, fun d hd => hi i u hu hok hop c d _ (hkT.free hd) upd_same (hkT.new hd)⟩
    · rw [show decide ((runS (s0 n) (log.take i)).2.2.getD u.natAbs default = decide (u < 0)) = false by simpa using c]
      have hln : ((runS (s0 n) (log.take i)).2.2.take (n + 1).toNat).length = (n + 1).toNat := by rw [List.length_take]; omega
      walk_at "w"
      refine ⟨⟨_, _, rfl⟩, hkT.own hqn, fun j o hj ho => ?_, ?_⟩
      · by_cases z : j < i
        · exact hok j o z ho
        · obtain rfl : j = i := by omega
          rw [hu] at ho
          cases ho
          exact ⟨hop, c⟩
      · rw [take_snoc hu, runS_snoc]
        show _ = some (HO.lst (((apF (runS (s0 n) (log.take i)).2.2 u).take (n + 1).toNat).map V.bl))
        unfold apF
        rw [List.take_set]
        exact upd_same
  · rintro σ' H' ⟨⟨z1, z2, rfl⟩, hk, hok, hq2⟩
    walk_at "w"
    exact k hok _ hk
/-! ### the moments -/
def mom (s : List Int × List Int × List Bool) (o : Int) : List V := [.int (o.natAbs : Int), .int (s.2.1.getD o.natAbs default), .int (s.1.getD o.natAbs default)]
def momF (t : List Int × List Int × List Bool) (log : List Int) (k : Nat) : List (List V) := (List.range k).map fun i => mom (runS t (log.take i)) (log.getD i default)
theorem momF_succ (t : List Int × List Int × List Bool) (log : List Int) (k : Nat) : momF t log (k + 1) = momF t log k ++ [mom (runS t (log.take k)) (log.getD k default)] := by
  unfold momF
  rw [List.range_succ, List.map_append]; rfl
theorem st_L {n : Int} {s : List Int × List Int × List Bool} (W : WFs n s) {o : Int} (h : IsOp n o) : (stS s o).2.1.getD o.natAbs default = s.2.1.getD o.natAbs default := by
  have h1 := h.1
  have h2 := h.2
  have q := WF.at W (v := o.natAbs) (by omega) h2
  show (apL s.2.1 s.1 o).getD o.natAbs default = _
  unfold apL
  rw [getD_set_ne (by omega)]
theorem st_R {n : Int} {s : List Int × List Int × List Bool} (W : WFs n s) {o : Int} (h : IsOp n o) : (stS s o).1.getD o.natAbs default = s.1.getD o.natAbs default := by
  have h1 := h.1
  have h2 := h.2
  have q := WF.at W (v := o.natAbs) (by omega) h2
  show (apR s.2.1 s.1 o).getD o.natAbs default = _
  unfold apR
  rw [getD_set_ne (by omega)]
def sp_moments (a : AD) : Sp := fun vs H Q E => ∃ (n : Int) (p : Addr) (log : List Int), vs = [.int n, .ref p] ∧ H p = some (.lst (log.map V.int)) ∧ log.length ≤ 100000 ∧ logSp a n log H E (∀ q xs H', H q = none → Kp [] H H' → H' q = some (.lst xs) → Tps H' xs (momF (s0 n) log log.length) → Q (.ref q) H')
/-- no fault in a legal log -/
theorem play_ok {a : AD} {n : Int} {log : List Int} {H : Hp} {E : XK} {k : Prop} (hok : okTo n (s0 n) log log.length) (h : k) : playSp a n (s0 n) log H E k :=
  ⟨fun i o ho _ z => absurd (hok i o (List.getElem?_eq_some_iff.mp ho).1 ho).1 z, fun i o ho _ _ z => absurd z (hok i o (List.getElem?_eq_some_iff.mp ho).1 ho).2, fun _ => h⟩
theorem log_ok {a : AD} {n : Int} {log : List Int} {H : Hp} {E : XK} {k : Prop} (n0 : 0 ≤ n) (n1 : n ≤ 60) (hok : okTo n (s0 n) log log.length) (h : k) : logSp a n log H E k :=
  ⟨fun z => absurd ⟨n0, n1⟩ z, fun _ _ => play_ok hok h⟩

/-! ### who wrote a link last -/
def wrR (t : List Int × List Int × List Bool) (log : List Int) (n : Int) : Nat → List Int
  | 0 => List.replicate (n + 1).toNat (-1)
  | i + 1 => (wrR t log n i).set ((runS t (log.take i)).2.1.getD (log.getD i default).natAbs default).toNat (i : Int)
def wrL (t : List Int × List Int × List Bool) (log : List Int) (n : Int) : Nat → List Int
  | 0 => List.replicate (n + 1).toNat (-1)
  | i + 1 => (wrL t log n i).set ((runS t (log.take i)).1.getD (log.getD i default).natAbs default - 1).toNat (i : Int)
theorem wrR_len (t : List Int × List Int × List Bool) (log : List Int) (n : Int) : ∀ i, (wrR t log n i).length = (n + 1).toNat
  | 0 => by simp [wrR]
  | i + 1 => by rw [wrR, List.length_set, wrR_len t log n i]
theorem wrL_len (t : List Int × List Int × List Bool) (log : List Int) (n : Int) : ∀ i, (wrL t log n i).length = (n + 1).toNat
  | 0 => by simp [wrL]
  | i + 1 => by rw [wrL, List.length_set, wrL_len t log n i]
/-- the state of a gap behind the first i operations -/
def stAt (t : List Int × List Int × List Bool) (log : List Int) (i : Nat) (g : Int) : Str := stateOf (runS t (log.take i)).1 (runS t (log.take i)).2.1 g
def decF (t : List Int × List Int × List Bool) (log : List Int) (g : Int) : Nat → Int
  | 0 => -1
  | i + 1 => if stAt t log (i + 1) g = stAt t log i g then decF t log g i else (i : Int)
/-- the two gaps of the operation at i -/
def loAt (t : List Int × List Int × List Bool) (log : List Int) (i : Nat) : Int := (runS t (log.take i)).2.1.getD (log.getD i default).natAbs default
def hiAt (t : List Int × List Int × List Bool) (log : List Int) (i : Nat) : Int := (runS t (log.take i)).1.getD (log.getD i default).natAbs default - 1
def lossF (t : List Int × List Int × List Bool) (log : List Int) : Nat → Option (Nat × Int)
  | 0 => none
  | i + 1 => match lossF t log i with
    | some p => some p
    | none => if stAt t log (i + 1) (loAt t log i) = ("lost" : Str) then some (i, loAt t log i) else if stAt t log (i + 1) (hiAt t log i) = ("lost" : Str) then some (i, hiAt t log i) else none
theorem momF_get {t : List Int × List Int × List Bool} {log : List Int} {k i : Nat} (h : i < k) : (momF t log k)[i]? = some (mom (runS t (log.take i)) (log.getD i default)) := by
  unfold momF
  rw [List.getElem?_map, List.getElem?_range h]; rfl
theorem momF_len (t : List Int × List Int × List Bool) (log : List Int) (k : Nat) : (momF t log k).length = k := by simp [momF]
theorem gD_some {α : Type} [Inhabited α] {us : List α} {i : Nat} {u : α} (h : us[i]? = some u) : us.getD i default = u := by rw [List.getD_eq_getElem?_getD, h]; rfl
/-- the links of an operation that is due -/
theorem ok_at {n : Int} {t : List Int × List Int × List Bool} {log : List Int} (W : WFs n t) (hok : okTo n t log log.length) {i : Nat} {u : Int} (hu : log[i]? = some u) : OkAt n (runS t (log.take i)) u ∧ WFs n (runS t (log.take i)) ∧ 1 ≤ u.natAbs ∧ (u.natAbs : Int) ≤ n ∧ 0 ≤ loAt t log i ∧ loAt t log i < (u.natAbs : Int) ∧ (u.natAbs : Int) ≤ hiAt t log i ∧ hiAt t log i ≤ n := by
  have hil : i < log.length := (List.getElem?_eq_some_iff.mp hu).1
  have h := hok i u hil hu
  have Wi := runS_wf W i (by omega) (fun j o hj ho => hok j o (by omega) ho)
  have h1 := h.1.1
  have h2 := h.1.2
  have q := WF.at Wi (v := u.natAbs) (by omega) h2
  unfold loAt hiAt
  rw [gD_some hu]
  exact ⟨h, Wi, by omega, h2, q.1, q.2.1, by omega, by omega⟩
def sp_writers (a : AD) : Sp := fun vs H Q E => ∃ (n : Int) (p : Addr) (log : List Int), vs = [.int n, .ref p] ∧ H p = some (.lst (log.map V.int)) ∧ log.length ≤ 100000 ∧ logSp a n log H E (∀ q r l H', H q = none → H r = none → H l = none → r ≠ l → Kp [] H H' → H' q = some (.tup [.ref r, .ref l]) → H' r = some (.lst ((wrR (s0 n) log n log.length).map V.int)) → H' l = some (.lst ((wrL (s0 n) log n log.length).map V.int)) → Q (.ref q) H')
/-! ### decided, lost -/
theorem gap_app {n : Int} {s : List Int × List Int × List Bool} (W : WFs n s) {g x : Int} (g0 : 0 ≤ g) (g1 : g ≤ n) : stateOf (s.1 ++ [x]) s.2.1 g = stateOf s.1 s.2.1 g := by
  obtain ⟨m, rfl⟩ := Int.eq_ofNat_of_zero_le g0
  exact state_app W (by omega)
theorem stAt_succ {t : List Int × List Int × List Bool} {log : List Int} {i : Nat} {u : Int} (hu : log[i]? = some u) (g : Int) : stAt t log (i + 1) g = stateOf (stS (runS t (log.take i)) u).1 (stS (runS t (log.take i)) u).2.1 g := by
  unfold stAt
  rw [take_snoc hu, runS_snoc]
def sp_decided_by (a : AD) : Sp := fun vs H Q E => ∃ (n g : Int) (p : Addr) (log : List Int), vs = [.int n, .ref p, .int g] ∧ H p = some (.lst (log.map V.int)) ∧ log.length ≤ 100000 ∧ logSp a n log H E ((¬(0 ≤ g ∧ g ≤ n) → ∀ H', Kp [] H H' → xBadGap a (.int g) E H') ∧ (0 ≤ g → g ≤ n → ∀ H', Kp [] H H' → Q (.int (decF (s0 n) log g log.length)) H'))
theorem sc_decided_by : FnScope ["size", "log", "gap", "links", "state", "decided", "index", "operation", "new_state"] ["size", "log", "gap"] (defScope s_decided_by) := ⟨rfl, rfl, rfl, by decide +kernel, rfl, by decide +kernel, by decide +kernel⟩
theorem ok_decided_by {P : Program} {w : World} {K : PySem.W.Frag} {mg : Str → Option Value} {base : Heap} {a : AD} (T : Txt P K mg a) (G_check_log : FnA P w K mg base 3 a.f_check_log ["size", "log"] (sp_check_log a)) (G_check_gap : FnA P w K mg base 2 a.f_check_gap ["size", "gap"] (sp_check_gap a)) (G_Links___init__ : FnA P w K mg base 3 a.f_Links___init__ ["self", "size"] (sp_Links___init__ a)) (G_gap_state : FnA P w K mg base 4 a.f_gap_state ["links", "gap"] (sp_gap_state a)) (G_Links_apply_at : FnA P w K mg base 3 a.f_Links_apply_at ["self", "operation", "index"] (sp_Links_apply_at a)) : FnA P w K mg base 5 a.f_decided_by ["size", "log", "gap"] (sp_decided_by a) := by
  obtain ⟨fd, F, b⟩ := T.F_decided_by
  refine FnA.of F sc_decided_by b (fun vs H Q E h => by first | (obtain ⟨rfl, _⟩ := h; rfl) | (obtain ⟨_, rfl, _⟩ := h; rfl) | (obtain ⟨_, _, rfl, _⟩ := h; rfl) | (obtain ⟨_, _, _, rfl, _⟩ := h; rfl) | (obtain ⟨_, _, _, _, rfl, _⟩ := h; rfl) | (obtain ⟨_, _, _, _, _, rfl, _⟩ := h; rfl) | (obtain ⟨_, _, _, _, _, _, rfl, _⟩ := h; rfl) | (obtain ⟨_, _, _, _, _, _, _, rfl, _⟩ := h; rfl) | (obtain ⟨_, _, _, _, _, _, _, _, rfl, _⟩ := h; rfl) | (obtain ⟨_, _, _, _, _, _, _, _, _, rfl, _⟩ := h; rfl) | (obtain ⟨_, _, _, _, _, _, _, _, _, _, rfl, _⟩ := h; rfl) | (obtain ⟨_, _, _, _, _, _, _, _, _, _, _, rfl, _⟩ := h; rfl) | (obtain ⟨_, _, _, _, _, _, _, _, _, _, _, _, rfl, _⟩ := h; rfl) | (obtain ⟨_, _, _, _, _, _, _, _, _, _, _, _, _, rfl, _⟩ := h; rfl) | (obtain ⟨_, _, _, _, _, _, _, _, _, _, _, _, _, _, rfl, _⟩ := h; rfl) | (obtain ⟨_, _, _, _, _, _, _, _, _, _, _, _, _, _, _, rfl, _⟩ := h; rfl) | (obtain ⟨_, _, _, _, _, _, _, _, _, _, _, _, _, _, _, _, rfl, _⟩ := h; rfl) | (obtain ⟨_, _, _, _, _, _, _, _, _, _, _, _, _, _, _, _, _, rfl, _⟩ := h; rfl) | (obtain ⟨_, _, _, _, _, _, _, _, _, _, _, _, _, _, _, _, _, _, rfl, _⟩ := h; rfl) | (obtain ⟨_, _, _, _, _, _, _, _, _, _, _, _, _, _, _, _, _, _, _, rfl, _⟩ := h; rfl) | (obtain ⟨_, _, _, _, _, _, _, _, _, _, _, _, _, _, _, _, _, _, _, _, rfl, _⟩ := h; rfl) | (obtain ⟨_, _, _, _, _, _, _, _, _, _, _, _, _, _, _, _, _, _, _, _, _, rfl, _⟩ := h; rfl) | (obtain ⟨_, _, _, _, _, _, _, _, _, _, _, _, _, _, _, _, _, _, _, _, _, _, rfl, _⟩ := h; rfl) | (obtain ⟨_, _, _, _, _, _, _, _, _, _, _, _, _, _, _, _, _, _, _, _, _, _, _, rfl, _⟩ := h; rfl)) (fun cdv A outer s H vs Q E hr tk pz h => ?_)
  have hu := hr.units
  have hrH := L2H.roomH_of hr
  obtain ⟨n, g, p, log, rfl, hp, hlen, hs, h⟩ := h
  refine ⟨_, (pss_cons (ps_expr (pe_callA G_check_log (Room.mono hr (by decide)) T.n_check_log tk (pa_cons (pv 0) (pa_cons (pv 1) pa_nil))))
      (pss_cons (ps_expr (pe_callA G_check_gap (Room.mono hr (by decide)) T.n_check_gap tk (pa_cons (pv 0) (pa_cons (pv 2) pa_nil))))
      (pss_cons (ps_set (i := 3) sc_decided_by.nd rfl (Or.inl rfl) (pe_makeS G_Links___init__ T.mk_Links (Room.mono hr (by decide)) T.c_Links tk (pa_cons (pv 0) pa_nil)))
      (pss_cons (ps_set (i := 4) sc_decided_by.nd rfl (Or.inl rfl) (pe_callA G_gap_state (Room.mono hr (by decide)) T.n_gap_state tk (pa_cons (pv 3) (pa_cons (pv 2) pa_nil))))
      (pss_cons (ps_set (i := 5) sc_decided_by.nd rfl (Or.inl rfl) (pe_un un_neg pe_int))
      (pss_cons (ps_for pz rfl (pi_enum rfl T.b_enumerate (pa_cons (pv 1) pa_nil)) (pg_tup (n := 2) rfl (pgs_cons (pg_name (i := 6) sc_decided_by.nd rfl (Or.inl rfl)) (pgs_cons (pg_name (i := 7) sc_decided_by.nd rfl (Or.inl rfl)) pgs_nil)))
      (pss_cons (ps_expr (pe_methS (pl := _) G_Links_apply_at (Room.mono hr (by decide)) T.cl_Links T.me_Links_apply_at tk (pv 3) (pa_cons (pv 7) (pa_cons (pv 6) pa_nil))))
      (pss_cons (ps_set (i := 8) sc_decided_by.nd rfl (Or.inl rfl) (pe_callA G_gap_state (Room.mono hr (by decide)) T.n_gap_state tk (pa_cons (pv 3) (pa_cons (pv 2) pa_nil))))
      (pss_cons (ps_if (pt_cmpA (o_ne hu) (pv 8) (pv 4) (nomark _)) (pss_one (ps_set (i := 5) sc_decided_by.nd rfl (Or.inl rfl) (pv 6))) pss_nil)
      (pss_one (ps_set (i := 4) sc_decided_by.nd rfl (Or.inl rfl) (pv 8)))))))
      (pss_one (ps_ret (pv 5))))))))), ?_⟩
  show (_ : Ends → L2.St → Hp → Prop) _ [some _, some _, some _, none, none, none, none, none, none] _
  try dsimp only [L2H.cxH, cxOf]
  walk_at "w"
  refine ⟨n, p, log, rfl, hp, hlen, hs, fun n0 n1 => ⟨(h n0 n1).1, (h n0 n1).2.1, fun hok H1 k1 => ?_⟩⟩
  obtain ⟨hg, k⟩ := (h n0 n1).2.2 hok
  have hp1 := k1.at0 hp
  walk_at "w"
  refine ⟨n, g, rfl, fun z => hg z H1 k1, fun g0 g1 => ?_⟩
  walk_at "w"
  refine mk_new (fun z => absurd ⟨n0, n1⟩ z) fun _ _ x l r f H2 hx hl hr hf hL k2 => ?_
  have W0 := wfs0 n0 n1
  walk_at "w"
  refine ⟨x, l, r, f, n, g, _, _, _, rfl, hL.obj W0, fun z => absurd ⟨g0, g1⟩ z, fun _ _ => ?_⟩
  rw [gap_app W0 g0 g1]
  walk_at "w"
  refine w_enumM (us := log) (f := V.int) (p := p) (k2.at0 hp1) (fun i σ' H' => (∃ z1 z2 z3, σ' = [some (.int n), some (.ref p), some (.int g), some (.ref x), some (.str (stAt (s0 n) log i g)), some (.int (decF (s0 n) log g i)), z1, z2, z3]) ∧ Kp [] H1 H' ∧ LkS a H' x l r f n (runS (s0 n) (log.take i))) ⟨⟨_, _, _, rfl⟩, k2, hL⟩ (fun i σ' H' _ h => h.2.1.at0 hp1) ?_ ?_
  · rintro i u T σ' H' hu ⟨⟨z1, z2, z3, rfl⟩, hk, hL2⟩ hT
    have hil : i < log.length := (List.getElem?_eq_some_iff.mp hu).1
    have hO := ok_at W0 hok hu
    have hkT := hk.new (o := .tup [.int (i : Int), .int u]) hT
    have hLT := hL2.kp0 (Kp.refl.new (o := .tup [.int (i : Int), .int u]) hT)
    generalize upd H' T (.tup [.int (i : Int), .int u]) = H3 at hkT hLT ⊢
    have hx3 := hLT.1.choose_spec
    walk_at "w"
    refine ap_step W0 hu (fun j o hj ho => hok j o (by omega) ho) rfl (by omega) hLT (fun z => absurd hO.1.1 z) (fun _ z => absurd z hO.1.2) (fun hO' Wi hok' H4 hL4 k4 => ?_)
    have k04 := kp_new3 hkT hl hr hf k4
    have W4 : WFs n (stS (runS (s0 n) (log.take i)) u) := WF.ap Wi hO'.1
    walk_at "w"
    refine ⟨x, l, r, f, n, g, _, _, _, rfl, hL4.obj W4, fun z => absurd ⟨g0, g1⟩ z, fun _ _ => ?_⟩
    rw [gap_app W4 g0 g1, ← stAt_succ hu]
    walk_at "w"
    refine w_iteN (fun c => ?_) (fun c => ?_)
    · walk_at "w"
      refine ⟨⟨some (.int (i : Int)), some (.int u), some (.str (stAt (s0 n) log (i + 1) g)), ?_⟩, k04, ?_⟩
      · rw [decF, if_neg c]; rfl
      · rw [take_snoc hu, runS_snoc]; exact hL4
    · walk_at "w"
      refine ⟨⟨some (.int (i : Int)), some (.int u), some (.str (stAt (s0 n) log (i + 1) g)), ?_⟩, k04, ?_⟩
      · rw [decF, if_pos c]; rfl
      · rw [take_snoc hu, runS_snoc]; exact hL4
  · rintro σ' H' ⟨⟨z1, z2, z3, rfl⟩, hk, hL2⟩
    walk_at "w"
    exact k g0 g1 H' (k1.trans0 hk)
/-- the loss as a value -/
def LsV (H : Hp) (v : V) : Option (Nat × Int) → Prop
  | none => v = .non
  | some (i, g) => ∃ t, v = .ref t ∧ H t = some (.tup [.int (i : Int), .int g])
theorem LsV.kp0 {H H' : Hp} {v : V} {q : Option (Nat × Int)} (h : LsV H v q) (k : Kp [] H H') : LsV H' v q := by
  cases q with
  | none => exact h
  | some p =>
    obtain ⟨t, h1, h2⟩ := h
    exact ⟨t, h1, k.at0 h2⟩
def sp_first_loss (a : AD) : Sp := fun vs H Q E => ∃ (n : Int) (p : Addr) (log : List Int), vs = [.int n, .ref p] ∧ H p = some (.lst (log.map V.int)) ∧ log.length ≤ 100000 ∧ logSp a n log H E (∀ v H', Kp [] H H' → LsV H' v (lossF (s0 n) log log.length) → Q v H')
def sp_replay (a : AD) : Sp := fun vs H Q E => ∃ (n : Int) (p : Addr) (log : List Int), vs = [.int n, .ref p] ∧ H p = some (.lst (log.map V.int)) ∧ log.length ≤ 100000 ∧ logSp a n log H E (∀ (x l r f : Addr) (H' : Hp), H x = none → H l = none → H r = none → H f = none → LkS a H' x l r f n (runS (s0 n) log) → Kp [] H H' → Q (.ref x) H')
theorem sc_replay : FnScope ["size", "log", "links", "index", "operation"] ["size", "log"] (defScope s_replay) := ⟨rfl, rfl, rfl, by decide +kernel, rfl, by decide +kernel, by decide +kernel⟩
theorem ok_replay {P : Program} {w : World} {K : PySem.W.Frag} {mg : Str → Option Value} {base : Heap} {a : AD} (T : Txt P K mg a) (G_Links___init__ : FnA P w K mg base 3 a.f_Links___init__ ["self", "size"] (sp_Links___init__ a)) (G_Links_apply_at : FnA P w K mg base 3 a.f_Links_apply_at ["self", "operation", "index"] (sp_Links_apply_at a)) : FnA P w K mg base 5 a.f_replay ["size", "log"] (sp_replay a) := by
  obtain ⟨fd, F, b⟩ := T.F_replay
  refine FnA.of F sc_replay b (fun vs H Q E h => by first | (obtain ⟨rfl, _⟩ := h; rfl) | (obtain ⟨_, rfl, _⟩ := h; rfl) | (obtain ⟨_, _, rfl, _⟩ := h; rfl) | (obtain ⟨_, _, _, rfl, _⟩ := h; rfl) | (obtain ⟨_, _, _, _, rfl, _⟩ := h; rfl) | (obtain ⟨_, _, _, _, _, rfl, _⟩ := h; rfl) | (obtain ⟨_, _, _, _, _, _, rfl, _⟩ := h; rfl) | (obtain ⟨_, _, _, _, _, _, _, rfl, _⟩ := h; rfl) | (obtain ⟨_, _, _, _, _, _, _, _, rfl, _⟩ := h; rfl) | (obtain ⟨_, _, _, _, _, _, _, _, _, rfl, _⟩ := h; rfl) | (obtain ⟨_, _, _, _, _, _, _, _, _, _, rfl, _⟩ := h; rfl) | (obtain ⟨_, _, _, _, _, _, _, _, _, _, _, rfl, _⟩ := h; rfl) | (obtain ⟨_, _, _, _, _, _, _, _, _, _, _, _, rfl, _⟩ := h; rfl) | (obtain ⟨_, _, _, _, _, _, _, _, _, _, _, _, _, rfl, _⟩ := h; rfl) | (obtain ⟨_, _, _, _, _, _, _, _, _, _, _, _, _, _, rfl, _⟩ := h; rfl) | (obtain ⟨_, _, _, _, _, _, _, _, _, _, _, _, _, _, _, rfl, _⟩ := h; rfl) | (obtain ⟨_, _, _, _, _, _, _, _, _, _, _, _, _, _, _, _, rfl, _⟩ := h; rfl) | (obtain ⟨_, _, _, _, _, _, _, _, _, _, _, _, _, _, _, _, _, rfl, _⟩ := h; rfl) | (obtain ⟨_, _, _, _, _, _, _, _, _, _, _, _, _, _, _, _, _, _, rfl, _⟩ := h; rfl) | (obtain ⟨_, _, _, _, _, _, _, _, _, _, _, _, _, _, _, _, _, _, _, rfl, _⟩ := h; rfl) | (obtain ⟨_, _, _, _, _, _, _, _, _, _, _, _, _, _, _, _, _, _, _, _, rfl, _⟩ := h; rfl) | (obtain ⟨_, _, _, _, _, _, _, _, _, _, _, _, _, _, _, _, _, _, _, _, _, rfl, _⟩ := h; rfl) | (obtain ⟨_, _, _, _, _, _, _, _, _, _, _, _, _, _, _, _, _, _, _, _, _, _, rfl, _⟩ := h; rfl) | (obtain ⟨_, _, _, _, _, _, _, _, _, _, _, _, _, _, _, _, _, _, _, _, _, _, _, rfl, _⟩ := h; rfl)) (fun cdv A outer s H vs Q E hr tk pz h => ?_)
  have hu := hr.units
  have hrH := L2H.roomH_of hr
  obtain ⟨n, p, log, rfl, hp, hlen, hs, h⟩ := h
  refine ⟨_, (pss_cons (ps_set (i := 2) sc_replay.nd rfl (Or.inl rfl) (pe_makeS G_Links___init__ T.mk_Links (Room.mono hr (by decide)) T.c_Links tk (pa_cons (pv 0) pa_nil)))
      (pss_cons (ps_for pz rfl (pi_enum rfl T.b_enumerate (pa_cons (pv 1) pa_nil)) (pg_tup (n := 2) rfl (pgs_cons (pg_name (i := 3) sc_replay.nd rfl (Or.inl rfl)) (pgs_cons (pg_name (i := 4) sc_replay.nd rfl (Or.inl rfl)) pgs_nil)))
      (pss_one (ps_expr (pe_methS (pl := _) G_Links_apply_at (Room.mono hr (by decide)) T.cl_Links T.me_Links_apply_at tk (pv 2) (pa_cons (pv 4) (pa_cons (pv 3) pa_nil))))))
      (pss_one (ps_ret (pv 2))))), ?_⟩
  show (_ : Ends → L2.St → Hp → Prop) _ [some _, some _, none, none, none] _
  try dsimp only [L2H.cxH, cxOf]
  walk_at "w"
  refine mk_new hs fun n0 n1 x l r f H1 hx hl hr hf hL k1 => ?_
  obtain ⟨hb, hi, k⟩ := h n0 n1
  have W0 := wfs0 n0 n1
  walk_at "w"
  refine w_enumM (us := log) (f := V.int) (p := p) (k1.at0 hp) (fun i σ' H' => (∃ z1 z2, σ' = [some (.int n), some (.ref p), some (.ref x), z1, z2]) ∧ Kp [] H H' ∧ okTo n (s0 n) log i ∧ LkS a H' x l r f n (runS (s0 n) (log.take i))) ⟨⟨_, _, rfl⟩, k1, fun j o hj => by omega, hL⟩ (fun i σ' H' _ h => h.2.1.at0 hp) ?_ ?_
  · rintro i u T σ' H' hu ⟨⟨z1, z2, rfl⟩, hk, hok, hL2⟩ hT
    have hil : i < log.length := (List.getElem?_eq_some_iff.mp hu).1
    have hkT := hk.new (o := .tup [.int (i : Int), .int u]) hT
    have hLT := hL2.kp0 (Kp.refl.new (o := .tup [.int (i : Int), .int u]) hT)
    generalize upd H' T (.tup [.int (i : Int), .int u]) = H3 at hkT hLT ⊢
    have hx3 := hLT.1.choose_spec
    walk_at "w"
    refine ap_step W0 hu hok rfl (by omega) hLT (fun z d H2 hd hd2 k2 => hb i u hu hok z d H2 (hkT.free hd) hd2 (hkT.trans k2)) (fun z1 z2 d H2 hd hd2 k2 => hi i u hu hok z1 z2 d H2 (hkT.free hd) hd2 (hkT.trans k2)) (fun hO Wi hok' H4 hL4 k4 => ?_)
    have k04 := kp_new3 hkT hl hr hf k4
    walk_at "w"
    refine ⟨⟨_, _, rfl⟩, k04, hok', ?_⟩
    rw [take_snoc hu, runS_snoc]
    exact hL4
  · rintro σ' H' ⟨⟨z1, z2, rfl⟩, hk, hok, hL2⟩
    rw [List.take_length] at hL2
    walk_at "w"
    exact k hok x l r f H' hx hl hr hf hL2 hk

/-! ### draws -/
/-- the box at b, its numbers at q -/
def Box (H : Hp) (b q : Addr) : Prop := ∃ (ns : List Int) (i big st c : Int), H b = some (.lst [.ref q, .int i, .int big, .int st, .int c]) ∧ H q = some (.lst (ns.map V.int)) ∧ q ≠ b ∧ 0 ≤ i ∧ 0 ≤ big
theorem Box.kp {H H' : Hp} {b q : Addr} (B : Box H b q) (k : Kp [] H H') : Box H' b q := by
  obtain ⟨ns, i, big, st, c, h1, h2, h3⟩ := B
  exact ⟨ns, i, big, st, c, k.at0 h1, k.at0 h2, h3⟩
theorem Box.new {H : Hp} {b q p : Addr} {o : HO} (B : Box H b q) (h : H p = none) : Box (upd H p o) b q := B.kp (Kp.refl.new h)
theorem Box.mut {H : Hp} {b q p : Addr} {o : HO} (B : Box H b q) (n1 : p ≠ b) (n2 : p ≠ q) : Box (upd H p o) b q := by
  obtain ⟨ns, i, big, st, c, h1, h2, h3⟩ := B
  exact ⟨ns, i, big, st, c, upd_get (Ne.symm n1) h1, upd_get (Ne.symm n2) h2, h3⟩
theorem Box.b {H : Hp} {b q p : Addr} (B : Box H b q) (h : H p = none) : p ≠ b := by
  obtain ⟨ns, i, big, st, c, h1, h2, h3⟩ := B
  exact Ne.symm (ne_of_none h1 h)
theorem Box.q {H : Hp} {b q p : Addr} (B : Box H b q) (h : H p = none) : p ≠ q := by
  obtain ⟨ns, i, big, st, c, h1, h2, h3⟩ := B
  exact Ne.symm (ne_of_none h2 h)
theorem kp_free {H H' : Hp} {b q r : Addr} (B : Box H' b q) (k : Kp [b] H H') (h : H' r = none) : H r = none := k.freeM h (by
  obtain ⟨ns, i, big, st, c, h1, h2, h3⟩ := B
  intro x hx
  rw [List.mem_singleton] at hx
  exact ⟨_, by rw [hx]; exact h1⟩)

def sp__law_bag (K : PySem.W.Frag) (a : AD) : Sp := fun vs H Q _ => ∃ (p : Addr) (ns : List Int), vs = [.ref p] ∧ SqL K H p (ns.map V.int) ∧ ∀ (b q : Addr) (H' : Hp), H b = none → Box H' b q → Kp [] H H' → Q (.ref b) H'
theorem sc__law_bag : FnScope ["_law_script"] ["_law_script"] (defScope s__law_bag) := ⟨rfl, rfl, rfl, by decide +kernel, rfl, by decide +kernel, by decide +kernel⟩
theorem ok__law_bag {P : Program} {w : World} {K : PySem.W.Frag} {mg : Str → Option Value} {base : Heap} {a : AD} (T : Txt P K mg a) : FnA P w K mg base 2 a.f__law_bag ["_law_script"] (sp__law_bag K a) := by
  obtain ⟨fd, F, b⟩ := T.F__law_bag
  refine FnA.of F sc__law_bag b (fun vs H Q E h => by first | (obtain ⟨rfl, _⟩ := h; rfl) | (obtain ⟨_, rfl, _⟩ := h; rfl) | (obtain ⟨_, _, rfl, _⟩ := h; rfl) | (obtain ⟨_, _, _, rfl, _⟩ := h; rfl) | (obtain ⟨_, _, _, _, rfl, _⟩ := h; rfl) | (obtain ⟨_, _, _, _, _, rfl, _⟩ := h; rfl) | (obtain ⟨_, _, _, _, _, _, rfl, _⟩ := h; rfl) | (obtain ⟨_, _, _, _, _, _, _, rfl, _⟩ := h; rfl) | (obtain ⟨_, _, _, _, _, _, _, _, rfl, _⟩ := h; rfl) | (obtain ⟨_, _, _, _, _, _, _, _, _, rfl, _⟩ := h; rfl) | (obtain ⟨_, _, _, _, _, _, _, _, _, _, rfl, _⟩ := h; rfl) | (obtain ⟨_, _, _, _, _, _, _, _, _, _, _, rfl, _⟩ := h; rfl) | (obtain ⟨_, _, _, _, _, _, _, _, _, _, _, _, rfl, _⟩ := h; rfl) | (obtain ⟨_, _, _, _, _, _, _, _, _, _, _, _, _, rfl, _⟩ := h; rfl) | (obtain ⟨_, _, _, _, _, _, _, _, _, _, _, _, _, _, rfl, _⟩ := h; rfl) | (obtain ⟨_, _, _, _, _, _, _, _, _, _, _, _, _, _, _, rfl, _⟩ := h; rfl) | (obtain ⟨_, _, _, _, _, _, _, _, _, _, _, _, _, _, _, _, rfl, _⟩ := h; rfl) | (obtain ⟨_, _, _, _, _, _, _, _, _, _, _, _, _, _, _, _, _, rfl, _⟩ := h; rfl) | (obtain ⟨_, _, _, _, _, _, _, _, _, _, _, _, _, _, _, _, _, _, rfl, _⟩ := h; rfl) | (obtain ⟨_, _, _, _, _, _, _, _, _, _, _, _, _, _, _, _, _, _, _, rfl, _⟩ := h; rfl) | (obtain ⟨_, _, _, _, _, _, _, _, _, _, _, _, _, _, _, _, _, _, _, _, rfl, _⟩ := h; rfl) | (obtain ⟨_, _, _, _, _, _, _, _, _, _, _, _, _, _, _, _, _, _, _, _, _, rfl, _⟩ := h; rfl) | (obtain ⟨_, _, _, _, _, _, _, _, _, _, _, _, _, _, _, _, _, _, _, _, _, _, rfl, _⟩ := h; rfl) | (obtain ⟨_, _, _, _, _, _, _, _, _, _, _, _, _, _, _, _, _, _, _, _, _, _, _, rfl, _⟩ := h; rfl)) (fun cdv A outer s H vs Q E hr tk pz h => ?_)
  have hu := hr.units
  have hrH := L2H.roomH_of hr
  obtain ⟨p, ns, rfl, hp, k⟩ := h
  refine ⟨_, (pss_one (ps_ret (pe_lst (pa_cons (pe_slice sl_any (pv 0) po_none (po_some pe_int)) (pa_cons pe_int (pa_cons pe_int (pa_cons pe_int (pa_cons pe_int pa_nil)))))))), ?_⟩
  show (_ : Ends → L2.St → Hp → Prop) _ [some _] _
  try dsimp only [L2H.cxH, cxOf]
  walk_at "w"
  intro l hl
  walk_at "w"
  intro b hb
  refine k b l _ (upd_nil hb) ⟨cut ns none (some 63), 0, 0, 1, 0, upd_same, upd_get (Ne.symm (upd_nel hb)) upd_same, Ne.symm (upd_nel hb), by omega, by omega⟩ ((Kp.refl.new hl).new hb)
def sp__law_draw (a : AD) : Sp := fun vs H Q _ => ∃ (b q : Addr) (m : Int), vs = [.ref b, .int m] ∧ Box H b q ∧ 0 < m ∧ m < 1073741824 ∧ ∀ (r : Int) (H' : Hp), 0 ≤ r → r < m → Box H' b q → Kp [b] H H' → Q (.int r) H'
theorem sc__law_draw : FnScope ["_law_bag_here", "_law_many", "_law_cell", "_law_digit", "_law_twice"] ["_law_bag_here", "_law_many"] (defScope s__law_draw) := ⟨rfl, rfl, rfl, by decide +kernel, rfl, by decide +kernel, by decide +kernel⟩
theorem ok__law_draw {P : Program} {w : World} {K : PySem.W.Frag} {mg : Str → Option Value} {base : Heap} {a : AD} (T : Txt P K mg a) : FnA P w K mg base 2 a.f__law_draw ["_law_bag_here", "_law_many"] (sp__law_draw a) := by
  obtain ⟨fd, F, b⟩ := T.F__law_draw
  refine FnA.of F sc__law_draw b (fun vs H Q E h => by first | (obtain ⟨rfl, _⟩ := h; rfl) | (obtain ⟨_, rfl, _⟩ := h; rfl) | (obtain ⟨_, _, rfl, _⟩ := h; rfl) | (obtain ⟨_, _, _, rfl, _⟩ := h; rfl) | (obtain ⟨_, _, _, _, rfl, _⟩ := h; rfl) | (obtain ⟨_, _, _, _, _, rfl, _⟩ := h; rfl) | (obtain ⟨_, _, _, _, _, _, rfl, _⟩ := h; rfl) | (obtain ⟨_, _, _, _, _, _, _, rfl, _⟩ := h; rfl) | (obtain ⟨_, _, _, _, _, _, _, _, rfl, _⟩ := h; rfl) | (obtain ⟨_, _, _, _, _, _, _, _, _, rfl, _⟩ := h; rfl) | (obtain ⟨_, _, _, _, _, _, _, _, _, _, rfl, _⟩ := h; rfl) | (obtain ⟨_, _, _, _, _, _, _, _, _, _, _, rfl, _⟩ := h; rfl) | (obtain ⟨_, _, _, _, _, _, _, _, _, _, _, _, rfl, _⟩ := h; rfl) | (obtain ⟨_, _, _, _, _, _, _, _, _, _, _, _, _, rfl, _⟩ := h; rfl) | (obtain ⟨_, _, _, _, _, _, _, _, _, _, _, _, _, _, rfl, _⟩ := h; rfl) | (obtain ⟨_, _, _, _, _, _, _, _, _, _, _, _, _, _, _, rfl, _⟩ := h; rfl) | (obtain ⟨_, _, _, _, _, _, _, _, _, _, _, _, _, _, _, _, rfl, _⟩ := h; rfl) | (obtain ⟨_, _, _, _, _, _, _, _, _, _, _, _, _, _, _, _, _, rfl, _⟩ := h; rfl) | (obtain ⟨_, _, _, _, _, _, _, _, _, _, _, _, _, _, _, _, _, _, rfl, _⟩ := h; rfl) | (obtain ⟨_, _, _, _, _, _, _, _, _, _, _, _, _, _, _, _, _, _, _, rfl, _⟩ := h; rfl) | (obtain ⟨_, _, _, _, _, _, _, _, _, _, _, _, _, _, _, _, _, _, _, _, rfl, _⟩ := h; rfl) | (obtain ⟨_, _, _, _, _, _, _, _, _, _, _, _, _, _, _, _, _, _, _, _, _, rfl, _⟩ := h; rfl) | (obtain ⟨_, _, _, _, _, _, _, _, _, _, _, _, _, _, _, _, _, _, _, _, _, _, rfl, _⟩ := h; rfl) | (obtain ⟨_, _, _, _, _, _, _, _, _, _, _, _, _, _, _, _, _, _, _, _, _, _, _, rfl, _⟩ := h; rfl)) (fun cdv A outer s H vs Q E hr tk pz h => ?_)
  have hu := hr.units
  have hrH := L2H.roomH_of hr
  obtain ⟨b, q, m, rfl, ⟨ns, i, big, st, c, hb, hq, hqb, hi, hbig⟩, hm0, hm1, k⟩ := h
  refine ⟨_, (pss_cons (ps_if (pt_not (pt_tru (pe_ix ix_seq (pv 0) pe_int (fun _ _ => rfl)))) (pss_one (ps_ret pe_int)) pss_nil)
      (pss_cons (ps_asg (pe_op o_add (pe_ix ix_seq (pv 0) pe_int (fun _ _ => rfl)) pe_int) (pg_sub (pv 0) pe_int set_list))
      (pss_cut (ps_if (PW.pt (pw_and (pt_cmpA op_le (pe_ix ix_seq (pv 0) pe_int (fun _ _ => rfl)) pe_int (nomark _)) (pw_and1 (pt_cmpA op_lt (pe_ix ix_seq (pv 0) pe_int (fun _ _ => rfl)) (pe_callB (b_len) rfl T.b_len (by decide +kernel) (pa_cons (pe_ix ix_seq (pv 0) pe_int (fun _ _ => rfl)) pa_nil)) (nomark _))))) (pss_cons (ps_set (i := 2) sc__law_draw.nd rfl (Or.inl rfl) (pe_ix ix_seq (pe_ix ix_seq (pv 0) pe_int (fun _ _ => rfl)) (pe_ix ix_seq (pv 0) pe_int (fun _ _ => rfl)) (fun _ _ => rfl)))
      (pss_cons (ps_asg (pe_op o_add (pe_ix ix_seq (pv 0) pe_int (fun _ _ => rfl)) pe_int) (pg_sub (pv 0) pe_int set_list))
      (pss_one (ps_if (pt_cmpA op_ge (pv 2) (pe_op op_pow pe_int pe_int) (nomark _)) (pss_one (ps_asg (pv 2) (pg_sub (pv 0) pe_int set_list))) (pss_one (ps_asg (pe_op op_mod (pe_callTy b_intA rfl T.b_int (by decide +kernel) (pa_cons (pe_op o_add (pe_op o_add (pe_op o_mul (pe_ix ix_seq (pv 0) pe_int (fun _ _ => rfl)) pe_int) (pe_op o_mul (pv 2) pe_int)) pe_int) pa_nil)) pe_int) (pg_sub (pv 0) pe_int set_list))))))) pss_nil)
      (pss_cons (ps_if (pt_cmpA op_gt (pe_ix ix_seq (pv 0) pe_int (fun _ _ => rfl)) pe_int (nomark _)) (pss_cons (ps_set (i := 3) sc__law_draw.nd rfl (Or.inl rfl) (pe_op op_mod (pe_callTy b_intA rfl T.b_int (by decide +kernel) (pa_cons (pe_ix ix_seq (pv 0) pe_int (fun _ _ => rfl)) pa_nil)) (pv 1)))
      (pss_cons (ps_asg (pe_op op_fdiv (pe_callTy b_intA rfl T.b_int (by decide +kernel) (pa_cons (pe_ix ix_seq (pv 0) pe_int (fun _ _ => rfl)) pa_nil)) (pv 1)) (pg_sub (pv 0) pe_int set_list))
      (pss_one (ps_ret (pv 3))))) pss_nil)
      (pss_cons (ps_asg (pe_op op_mod (pe_callTy b_intA rfl T.b_int (by decide +kernel) (pa_cons (pe_op o_add (pe_op o_add (pe_op o_mul (pe_ix ix_seq (pv 0) pe_int (fun _ _ => rfl)) pe_int) (pe_op o_mul (pe_ix ix_seq (pv 0) pe_int (fun _ _ => rfl)) pe_int)) pe_int) pa_nil)) pe_int) (pg_sub (pv 0) pe_int set_list))
      (pss_cons (ps_set (i := 4) sc__law_draw.nd rfl (Or.inl rfl) (pe_op op_mod (pe_callTy b_intA rfl T.b_int (by decide +kernel) (pa_cons (pe_op o_add (pe_op o_mul (pe_op op_fdiv (pe_ix ix_seq (pv 0) pe_int (fun _ _ => rfl)) pe_int) pe_int) (pe_ix ix_seq (pv 0) pe_int (fun _ _ => rfl))) pa_nil)) pe_int))
      (pss_one (ps_ret (pe_op op_mod (pe_callTy b_intA rfl T.b_int (by decide +kernel) (pa_cons (pe_op op_fdiv (pv 4) pe_int) pa_nil)) (pv 1)))))))))), ?_⟩
  show (_ : Ends → L2.St → Hp → Prop) _ [some _, some _, none, none, none] _
  try dsimp only [L2H.cxH, cxOf]
  walk_at "w"
  cases ns with
  | nil =>
    walk_at "w"
    exact k 0 H (by omega) (by omega) ⟨[], i, big, st, c, hb, hq, hqb, hi, hbig⟩ Kp.refl
  | cons n0 ns0 =>
    walk_at "w"
    generalize n0 :: ns0 = ns at hq
    refine s_cut (fun σ' H' => ∃ x i big st c, σ' = [some (.ref b), some (.int m), x, none, none] ∧ H' b = some (.lst [.ref q, .int i, .int big, .int st, .int c]) ∧ H' q = some (.lst (ns.map V.int)) ∧ Kp [b] H H' ∧ 0 ≤ i ∧ 0 ≤ big) ?_ ?_
    · skip
      walk_at "w"
      refine w_ite (fun c1 => ?_) (fun c1 => ?_)
      · walk_at "w"
        refine w_ite (fun c2 => ?_) (fun c2 => ?_)
        · walk_at "w"
          refine w_ite (fun c3 => ?_) (fun c3 => ?_)
          · walk_at "w"
            exact ⟨_, i + 1, ns.getD i.toNat default, st, c + 1, rfl, upd_same, upd_get hqb (upd_get hqb (upd_get hqb hq)), ((Kp.refl.mut List.mem_cons_self).mut List.mem_cons_self).mut List.mem_cons_self, by omega, Int.le_trans (by decide) c3⟩
          · walk_at "w"
            exact ⟨_, i + 1, big, _, c + 1, rfl, upd_same, upd_get hqb (upd_get hqb (upd_get hqb hq)), ((Kp.refl.mut List.mem_cons_self).mut List.mem_cons_self).mut List.mem_cons_self, by omega, hbig⟩
        · walk_at "w"
          exact ⟨_, _, _, _, _, rfl, upd_same, upd_get hqb hq, Kp.refl.mut List.mem_cons_self, hi, hbig⟩
      · walk_at "w"
        exact ⟨_, _, _, _, _, rfl, upd_same, upd_get hqb hq, Kp.refl.mut List.mem_cons_self, hi, hbig⟩
    · rintro σ' H' ⟨x, i, big, st, c, rfl, hb', hq', hk, hi, hbig⟩
      walk_at "w"
      refine w_ite (fun c1 => ?_) (fun c1 => ?_)
      · walk_at "w"
        exact k _ _ (Int.emod_nonneg _ (by omega)) (Int.emod_lt_of_pos _ hm0) ⟨ns, i, _, st, c, upd_same, upd_get hqb hq', hqb, hi, Int.ediv_nonneg hbig (by omega)⟩ (hk.mut List.mem_cons_self)
      · walk_at "w"
        exact k _ _ (Int.emod_nonneg _ (by omega)) (Int.emod_lt_of_pos _ hm0) ⟨ns, i, big, _, c, upd_same, upd_get hqb hq', hqb, hi, hbig⟩ (hk.mut List.mem_cons_self)
theorem Box.kpm {ms : List Addr} {H H' : Hp} {b q : Addr} (B : Box H b q) (k : Kp ms H H') (n1 : b ∉ ms) (n2 : q ∉ ms) : Box H' b q := by
  obtain ⟨ns, i, big, st, c, h1, h2, h3⟩ := B
  exact ⟨ns, i, big, st, c, k.at h1 n1, k.at h2 n2, h3⟩
theorem Box.live {H : Hp} {b q : Addr} (B : Box H b q) : ∀ y ∈ [b, q], ∃ o, H y = some o := by
  obtain ⟨ns, i, big, st, c, h1, h2, h3⟩ := B
  intro y hy
  simp only [List.mem_cons, List.mem_nil_iff, or_false] at hy
  rcases hy with rfl | rfl
  · exact ⟨_, h1⟩
  · exact ⟨_, h2⟩

/-! ### the law's standing -/
abbrev St3 := List Int × List Int × List Bool
def Bk (H : Hp) (w l r f : Addr) (n : Int) (s : St3) : Prop := Wd H w l r f n s.2.1 (s.1 ++ [n + 2]) s.2.2
theorem Bk.kp0 {H H' : Hp} {w l r f : Addr} {n : Int} {s : St3} (h : Bk H w l r f n s) (k : Kp [] H H') : Bk H' w l r f n s := Wd.kp0 h k
theorem set_app {us : List Int} {x u : Int} {i : Nat} (h : i < us.length) : (us ++ [x]).set i u = us.set i u ++ [x] := List.set_append_left _ _ h

/-! ### the law's book -/
theorem gd_app' {n : Int} {s : St3} (W : WFs n s) {x : Int} {i : Nat} (h : (i : Int) ≤ n) : (s.1 ++ [x]).getD i default = s.1.getD i default := gd_app (by rw [WF.hR W]; omega)
theorem bk_len {n : Int} {s : St3} (W : WFs n s) : (s.1 ++ [n + 2]).length = (n + 2).toNat := by
  have := WF.n0 W
  rw [List.length_append, WF.hR W]; simp; omega
def opF (s : St3) (v : Int) : Int := if s.2.2.getD v.toNat default = true then v else -v
theorem opF_ok {n : Int} {s : St3} {v : Int} (v1 : 1 ≤ v) (v2 : v ≤ n) : IsOp n (opF s v) ∧ (opF s v).natAbs = v.toNat ∧ OkAt n s (opF s v) := by
  have key : IsOp n (opF s v) ∧ (opF s v).natAbs = v.toNat ∧ s.2.2.getD v.toNat default ≠ decide (opF s v < 0) := by
    unfold opF IsOp
    by_cases c : s.2.2.getD v.toNat default = true
    · rw [if_pos c, c]
      refine ⟨by omega, by omega, ?_⟩
      rw [show decide (v < 0) = false by simp; omega]
      simp
    · rw [if_neg c]
      have c' : s.2.2.getD v.toNat default = false := by simpa using c
      rw [c']
      refine ⟨by omega, by omega, ?_⟩
      rw [show decide (-v < 0) = true by simp; omega]
      simp
  exact ⟨key.1, key.2.1, key.1, by rw [key.2.1]; exact key.2.2⟩
def sp__law_copy (a : AD) : Sp := fun vs H Q _ => ∃ (w l r f : Addr) (n : Int) (s : St3), vs = [.ref w] ∧ Bk H w l r f n s ∧ ∀ (w' l' r' f' : Addr) (H' : Hp), H w' = none → H l' = none → H r' = none → H f' = none → Bk H' w' l' r' f' n s → Kp [] H H' → Q (.ref w') H'
def sp__law_operation (a : AD) : Sp := fun vs H Q _ => ∃ (w l r f : Addr) (n v : Int) (s : St3), vs = [.ref w, .int v] ∧ Bk H w l r f n s ∧ WFs n s ∧ 1 ≤ v ∧ v ≤ n ∧ Q (.int (opF s v)) H
theorem sc__law_operation : FnScope ["_law_book", "_law_node"] ["_law_book", "_law_node"] (defScope s__law_operation) := ⟨rfl, rfl, rfl, by decide +kernel, rfl, by decide +kernel, by decide +kernel⟩
theorem ok__law_operation {P : Program} {w : World} {K : PySem.W.Frag} {mg : Str → Option Value} {base : Heap} {a : AD} (T : Txt P K mg a) : FnA P w K mg base 2 a.f__law_operation ["_law_book", "_law_node"] (sp__law_operation a) := by
  obtain ⟨fd, F, b⟩ := T.F__law_operation
  refine FnA.of F sc__law_operation b (fun vs H Q E h => by first | (obtain ⟨rfl, _⟩ := h; rfl) | (obtain ⟨_, rfl, _⟩ := h; rfl) | (obtain ⟨_, _, rfl, _⟩ := h; rfl) | (obtain ⟨_, _, _, rfl, _⟩ := h; rfl) | (obtain ⟨_, _, _, _, rfl, _⟩ := h; rfl) | (obtain ⟨_, _, _, _, _, rfl, _⟩ := h; rfl) | (obtain ⟨_, _, _, _, _, _, rfl, _⟩ := h; rfl) | (obtain ⟨_, _, _, _, _, _, _, rfl, _⟩ := h; rfl) | (obtain ⟨_, _, _, _, _, _, _, _, rfl, _⟩ := h; rfl) | (obtain ⟨_, _, _, _, _, _, _, _, _, rfl, _⟩ := h; rfl) | (obtain ⟨_, _, _, _, _, _, _, _, _, _, rfl, _⟩ := h; rfl) | (obtain ⟨_, _, _, _, _, _, _, _, _, _, _, rfl, _⟩ := h; rfl) | (obtain ⟨_, _, _, _, _, _, _, _, _, _, _, _, rfl, _⟩ := h; rfl) | (obtain ⟨_, _, _, _, _, _, _, _, _, _, _, _, _, rfl, _⟩ := h; rfl) | (obtain ⟨_, _, _, _, _, _, _, _, _, _, _, _, _, _, rfl, _⟩ := h; rfl) | (obtain ⟨_, _, _, _, _, _, _, _, _, _, _, _, _, _, _, rfl, _⟩ := h; rfl) | (obtain ⟨_, _, _, _, _, _, _, _, _, _, _, _, _, _, _, _, rfl, _⟩ := h; rfl) | (obtain ⟨_, _, _, _, _, _, _, _, _, _, _, _, _, _, _, _, _, rfl, _⟩ := h; rfl) | (obtain ⟨_, _, _, _, _, _, _, _, _, _, _, _, _, _, _, _, _, _, rfl, _⟩ := h; rfl) | (obtain ⟨_, _, _, _, _, _, _, _, _, _, _, _, _, _, _, _, _, _, _, rfl, _⟩ := h; rfl) | (obtain ⟨_, _, _, _, _, _, _, _, _, _, _, _, _, _, _, _, _, _, _, _, rfl, _⟩ := h; rfl) | (obtain ⟨_, _, _, _, _, _, _, _, _, _, _, _, _, _, _, _, _, _, _, _, _, rfl, _⟩ := h; rfl) | (obtain ⟨_, _, _, _, _, _, _, _, _, _, _, _, _, _, _, _, _, _, _, _, _, _, rfl, _⟩ := h; rfl) | (obtain ⟨_, _, _, _, _, _, _, _, _, _, _, _, _, _, _, _, _, _, _, _, _, _, _, rfl, _⟩ := h; rfl)) (fun cdv A outer s H vs Q E hr tk pz h => ?_)
  have hu := hr.units
  have hrH := L2H.roomH_of hr
  obtain ⟨w, l, r, f, n, v, s, rfl, ⟨hw, hl, hr', hf, _⟩, W, v1, v2, k⟩ := h
  refine ⟨_, (pss_cons (ps_if (pt_tru (pe_ix ix_seq (pe_ix ix_seq (pv 0) pe_int (fun _ _ => rfl)) (pv 1) (fun _ _ => rfl))) (pss_one (ps_ret (pv 1))) pss_nil)
      (pss_one (ps_ret (pe_un un_neg (pv 1))))), ?_⟩
  show (_ : Ends → L2.St → Hp → Prop) _ [some _, some _] _
  try dsimp only [L2H.cxH, cxOf]
  have hF := WF.hF W
  unfold opF at k
  walk_at "w"
  refine w_iteb (fun c => ?_) (fun c => ?_)
  · rw [if_pos c] at k
    walk_at "w"
    exact k
  · rw [if_neg (by rw [c]; exact Bool.false_ne_true)] at k
    walk_at "w"
    exact k
def sp__law_step (a : AD) : Sp := fun vs H Q _ => ∃ (w l r f : Addr) (n v : Int) (s : St3), vs = [.ref w, .int v] ∧ Bk H w l r f n s ∧ WFs n s ∧ 1 ≤ v ∧ v ≤ n ∧ ∀ H', Bk H' w l r f n (stS s (opF s v)) → WFs n (stS s (opF s v)) → Kp [l, r, f] H H' → Q .non H'
theorem sc__law_step : FnScope ["_law_book", "_law_node", "_law_lefts", "_law_rights", "_law_outs", "_law_low", "_law_high"] ["_law_book", "_law_node"] (defScope s__law_step) := ⟨rfl, rfl, rfl, by decide +kernel, rfl, by decide +kernel, by decide +kernel⟩
theorem ok__law_step {P : Program} {w : World} {K : PySem.W.Frag} {mg : Str → Option Value} {base : Heap} {a : AD} (T : Txt P K mg a) : FnA P w K mg base 2 a.f__law_step ["_law_book", "_law_node"] (sp__law_step a) := by
  obtain ⟨fd, F, b⟩ := T.F__law_step
  refine FnA.of F sc__law_step b (fun vs H Q E h => by first | (obtain ⟨rfl, _⟩ := h; rfl) | (obtain ⟨_, rfl, _⟩ := h; rfl) | (obtain ⟨_, _, rfl, _⟩ := h; rfl) | (obtain ⟨_, _, _, rfl, _⟩ := h; rfl) | (obtain ⟨_, _, _, _, rfl, _⟩ := h; rfl) | (obtain ⟨_, _, _, _, _, rfl, _⟩ := h; rfl) | (obtain ⟨_, _, _, _, _, _, rfl, _⟩ := h; rfl) | (obtain ⟨_, _, _, _, _, _, _, rfl, _⟩ := h; rfl) | (obtain ⟨_, _, _, _, _, _, _, _, rfl, _⟩ := h; rfl) | (obtain ⟨_, _, _, _, _, _, _, _, _, rfl, _⟩ := h; rfl) | (obtain ⟨_, _, _, _, _, _, _, _, _, _, rfl, _⟩ := h; rfl) | (obtain ⟨_, _, _, _, _, _, _, _, _, _, _, rfl, _⟩ := h; rfl) | (obtain ⟨_, _, _, _, _, _, _, _, _, _, _, _, rfl, _⟩ := h; rfl) | (obtain ⟨_, _, _, _, _, _, _, _, _, _, _, _, _, rfl, _⟩ := h; rfl) | (obtain ⟨_, _, _, _, _, _, _, _, _, _, _, _, _, _, rfl, _⟩ := h; rfl) | (obtain ⟨_, _, _, _, _, _, _, _, _, _, _, _, _, _, _, rfl, _⟩ := h; rfl) | (obtain ⟨_, _, _, _, _, _, _, _, _, _, _, _, _, _, _, _, rfl, _⟩ := h; rfl) | (obtain ⟨_, _, _, _, _, _, _, _, _, _, _, _, _, _, _, _, _, rfl, _⟩ := h; rfl) | (obtain ⟨_, _, _, _, _, _, _, _, _, _, _, _, _, _, _, _, _, _, rfl, _⟩ := h; rfl) | (obtain ⟨_, _, _, _, _, _, _, _, _, _, _, _, _, _, _, _, _, _, _, rfl, _⟩ := h; rfl) | (obtain ⟨_, _, _, _, _, _, _, _, _, _, _, _, _, _, _, _, _, _, _, _, rfl, _⟩ := h; rfl) | (obtain ⟨_, _, _, _, _, _, _, _, _, _, _, _, _, _, _, _, _, _, _, _, _, rfl, _⟩ := h; rfl) | (obtain ⟨_, _, _, _, _, _, _, _, _, _, _, _, _, _, _, _, _, _, _, _, _, _, rfl, _⟩ := h; rfl) | (obtain ⟨_, _, _, _, _, _, _, _, _, _, _, _, _, _, _, _, _, _, _, _, _, _, _, rfl, _⟩ := h; rfl)) (fun cdv A outer s H vs Q E hr tk pz h => ?_)
  have hu := hr.units
  have hrH := L2H.roomH_of hr
  obtain ⟨w, l, r, f, n, v, s, rfl, ⟨hw, hl, hr', hf, d1, d2, d3, d4, d5, d6⟩, W, v1, v2, k⟩ := h
  refine ⟨_, (pss_cons (ps_set (i := 2) sc__law_step.nd rfl (Or.inl rfl) (pe_ix ix_seq (pv 0) pe_int (fun _ _ => rfl)))
      (pss_cons (ps_set (i := 3) sc__law_step.nd rfl (Or.inl rfl) (pe_ix ix_seq (pv 0) pe_int (fun _ _ => rfl)))
      (pss_cons (ps_set (i := 4) sc__law_step.nd rfl (Or.inl rfl) (pe_ix ix_seq (pv 0) pe_int (fun _ _ => rfl)))
      (pss_cons (ps_set (i := 5) sc__law_step.nd rfl (Or.inl rfl) (pe_ix ix_seq (pv 2) (pv 1) (fun _ _ => rfl)))
      (pss_cons (ps_set (i := 6) sc__law_step.nd rfl (Or.inl rfl) (pe_ix ix_seq (pv 3) (pv 1) (fun _ _ => rfl)))
      (pss_cut (ps_if (pt_tru (pe_ix ix_seq (pv 4) (pv 1) (fun _ _ => rfl))) (pss_cons (ps_asg (pv 1) (pg_sub (pv 3) (pv 5) set_list))
      (pss_one (ps_asg (pv 1) (pg_sub (pv 2) (pv 6) set_list)))) (pss_cons (ps_asg (pv 6) (pg_sub (pv 3) (pv 5) set_list))
      (pss_one (ps_asg (pv 5) (pg_sub (pv 2) (pv 6) set_list)))))
      (pss_one (ps_asg (pe_not (pe_ix ix_seq (pv 4) (pv 1) (fun _ _ => rfl))) (pg_sub (pv 4) (pv 1) set_list))))))))), ?_⟩
  show (_ : Ends → L2.St → Hp → Prop) _ [some _, some _, none, none, none, none, none] _
  try dsimp only [L2H.cxH, cxOf]
  have hF := WF.hF W
  have hL := WF.hL W
  have hR := WF.hR W
  have hla := bk_len W
  have q := WF.at W (v := v.toNat) (by omega) (by omega)
  have hO := opF_ok (s := s) v1 v2
  have Wn : WFs n (stS s (opF s v)) := WF.ap W hO.1
  have eR := gd_app' W (x := n + 2) (i := v.toNat) (by omega)
  have ev : ((v.toNat : Nat) : Int) = v := by omega
  rw [ev] at q
  have eS : stS s (opF s v) = (s.1.set (s.2.1.getD v.toNat default).toNat (if s.2.2.getD v.toNat default = true then v else s.1.getD v.toNat default), s.2.1.set (s.1.getD v.toNat default).toNat (if s.2.2.getD v.toNat default = true then v else s.2.1.getD v.toNat default), s.2.2.set v.toNat (!s.2.2.getD v.toNat default)) := by
    unfold stS apR apL apF
    rw [hO.2.1, ev]
    unfold opF
    by_cases c : s.2.2.getD v.toNat default = true
    · rw [if_pos c, if_neg (by omega), if_neg (by omega), c, if_pos rfl, if_pos rfl]
      have : decide (v < 0) = false := by simp; omega
      rw [this]; rfl
    · have c' : s.2.2.getD v.toNat default = false := by simpa using c
      rw [if_neg c, if_pos (by omega), if_pos (by omega), c']
      have : decide (-v < 0) = true := by simp; omega
      rw [this]
      simp
  walk_at "w"
  rw [eR]
  refine s_cut (fun σ' H' => σ' = [some (.ref w), some (.int v), some (.ref l), some (.ref r), some (.ref f), some (.int (s.2.1.getD v.toNat default)), some (.int (s.1.getD v.toNat default))] ∧ H' w = H w ∧ H' l = some (.lst ((stS s (opF s v)).2.1.map V.int)) ∧ H' r = some (.lst (((stS s (opF s v)).1 ++ [n + 2]).map V.int)) ∧ H' f = some (.lst (s.2.2.map V.bl)) ∧ Kp [l, r, f] H H') ?_ ?_
  · rw [eS]
    walk_at "w"
    refine w_iteb (fun c => ?_) (fun c => ?_)
    · rw [if_pos c, if_pos c]
      walk_at "w"
      refine ⟨rfl, ?_, upd_same, ?_, ?_, (Kp.refl.mut (by simp)).mut (by simp)⟩
      · rw [upd_ne d1, upd_ne d2]
      · rw [upd_get (Ne.symm d4) upd_same, set_app (by omega)]
      · exact upd_get (Ne.symm d5) (upd_get (Ne.symm d6) hf)
    · have c' : ¬s.2.2.getD v.toNat default = true := by rw [c]; exact Bool.false_ne_true
      rw [if_neg c', if_neg c']
      walk_at "w"
      refine ⟨rfl, ?_, upd_same, ?_, ?_, (Kp.refl.mut (by simp)).mut (by simp)⟩
      · rw [upd_ne d1, upd_ne d2]
      · rw [upd_get (Ne.symm d4) upd_same, set_app (by omega)]
      · exact upd_get (Ne.symm d5) (upd_get (Ne.symm d6) hf)
  · rintro σ' H' ⟨rfl, h1, h2, h3, h4, hk⟩
    walk_at "w"
    refine k _ ⟨upd_get d3 (h1.trans hw), upd_get d5 h2, upd_get d6 h3, ?_, d1, d2, d3, d4, d5, d6⟩ Wn (hk.mut (by simp))
    rw [upd_same, eS]
/-- all joined, all in -/
def wholeS (n : Int) (s : St3) : Prop := (∀ v : Nat, 1 ≤ v → (v : Int) ≤ n → s.2.2.getD v default = false) ∧ ∀ g : Int, 0 ≤ g → g ≤ n → stateOf s.1 s.2.1 g = ("joined" : Str)
theorem state_joined {R L : List Int} {g : Int} : stateOf R L g = ("joined" : Str) ↔ R.getD g.toNat default = g + 1 ∧ L.getD (g + 1).toNat default = g := by
  unfold stateOf
  by_cases c1 : R.getD g.toNat default = g + 1
  · rw [if_pos c1]
    by_cases c2 : L.getD (g + 1).toNat default = g
    · rw [if_pos c2]; exact ⟨fun _ => ⟨c1, c2⟩, fun _ => rfl⟩
    · rw [if_neg c2]; exact ⟨fun h => absurd h (by decide), fun h => absurd h.2 c2⟩
  · rw [if_neg c1]
    by_cases c2 : L.getD (g + 1).toNat default = g
    · rw [if_pos c2]; exact ⟨fun h => absurd h (by decide), fun h => absurd h.1 c1⟩
    · rw [if_neg c2]; exact ⟨fun h => absurd h (by decide), fun h => absurd h.1 c1⟩
theorem state_lost {R L : List Int} {g : Int} : stateOf R L g = ("lost" : Str) ↔ R.getD g.toNat default ≠ g + 1 ∧ L.getD (g + 1).toNat default ≠ g := by
  unfold stateOf
  by_cases c1 : R.getD g.toNat default = g + 1
  · rw [if_pos c1]
    by_cases c2 : L.getD (g + 1).toNat default = g
    · rw [if_pos c2]; exact ⟨fun h => absurd h (by decide), fun h => absurd c1 h.1⟩
    · rw [if_neg c2]; exact ⟨fun h => absurd h (by decide), fun h => absurd c1 h.1⟩
  · rw [if_neg c1]
    by_cases c2 : L.getD (g + 1).toNat default = g
    · rw [if_pos c2]; exact ⟨fun h => absurd h (by decide), fun h => absurd c2 h.2⟩
    · rw [if_neg c2]; exact ⟨fun _ => ⟨c1, c2⟩, fun _ => rfl⟩

/-! ### what an operation does to the states -/
/-- the state that the gap left of the node comes to, where it may change -/
def endA (R L : List Int) (o : Int) : Option Str :=
  let lo := L.getD o.natAbs default
  if lo = (o.natAbs : Int) - 1 ∧ o > 0 then some "joined" else if lo = (o.natAbs : Int) - 1 then some "right" else if stateOf R L lo = ("joined" : Str) then some "right" else if stateOf R L lo = ("left" : Str) then some "lost" else none
def endB (R L : List Int) (o : Int) : Option Str :=
  let hi := R.getD o.natAbs default
  if hi = (o.natAbs : Int) + 1 ∧ o > 0 then some "joined" else if hi = (o.natAbs : Int) + 1 then some "left" else if stateOf R L (hi - 1) = ("joined" : Str) then some "left" else if stateOf R L (hi - 1) = ("right" : Str) then some "lost" else none
theorem getD_set {us : List Int} {i j : Nat} {u : Int} (h : i < us.length) : (us.set i u).getD j default = if i = j then u else us.getD j default := by
  by_cases z : i = j
  · subst z
    rw [if_pos rfl, getD_set_eq h]
  · rw [if_neg z, getD_set_ne z]
/-- the two links that a gap's state is made of, behind an operation -/
theorem ap_R {n : Int} {R L : List Int} {F : List Bool} (w : WF n R L F) {o : Int} (h : IsOp n o) (g : Int) (g0 : 0 ≤ g) : (apR L R o).getD g.toNat default = if g = L.getD o.natAbs default then (if o < 0 then R.getD o.natAbs default else (o.natAbs : Int)) else R.getD g.toNat default := by
  have h1 := h.1
  have h2 := h.2
  have q := w.at (v := o.natAbs) (by omega) h2
  have hR := w.hR
  unfold apR
  rw [getD_set (by omega)]
  by_cases z : g = L.getD o.natAbs default
  · rw [if_pos (by omega), if_pos z]
  · rw [if_neg (by omega), if_neg z]
theorem ap_L {n : Int} {R L : List Int} {F : List Bool} (w : WF n R L F) {o : Int} (h : IsOp n o) (g : Int) (g0 : 0 ≤ g) : (apL L R o).getD (g + 1).toNat default = if g + 1 = R.getD o.natAbs default then (if o < 0 then L.getD o.natAbs default else (o.natAbs : Int)) else L.getD (g + 1).toNat default := by
  have h1 := h.1
  have h2 := h.2
  have q := w.at (v := o.natAbs) (by omega) h2
  have hL := w.hL
  unfold apL
  rw [getD_set (by omega)]
  by_cases z : g + 1 = R.getD o.natAbs default
  · rw [if_pos (by omega), if_pos z]
  · rw [if_neg (by omega), if_neg z]
/-- another gap keeps its state -/
theorem ap_other {n : Int} {R L : List Int} {F : List Bool} (w : WF n R L F) {o : Int} (h : IsOp n o) {g : Int} (g0 : 0 ≤ g) (z1 : g ≠ L.getD o.natAbs default) (z2 : g ≠ R.getD o.natAbs default - 1) : stateOf (apR L R o) (apL L R o) g = stateOf R L g := by
  unfold stateOf
  rw [ap_R w h g g0, ap_L w h g g0, if_neg z1, if_neg (show ¬g + 1 = R.getD o.natAbs default by omega)]
/-- the left of the two gaps -/
theorem ap_low {n : Int} {R L : List Int} {F : List Bool} (w : WF n R L F) {o : Int} (h : IsOp n o) : stateOf (apR L R o) (apL L R o) (L.getD o.natAbs default) = (endA R L o).getD (stateOf R L (L.getD o.natAbs default)) := by
  have h1 := h.1
  have h2 := h.2
  have q := w.at (v := o.natAbs) (by omega) h2
  have eR := ap_R w h (L.getD o.natAbs default) q.1
  have eL := ap_L w h (L.getD o.natAbs default) q.1
  rw [if_pos rfl] at eR
  rw [if_neg (by omega)] at eL
  have hv : L.getD o.natAbs default = (o.natAbs : Int) - 1 → (L.getD o.natAbs default + 1).toNat = o.natAbs := fun z => by omega
  unfold endA
  dsimp only
  generalize hlo : L.getD o.natAbs default = lo at q eR eL hv ⊢
  generalize hhi : R.getD o.natAbs default = hi at q eR eL ⊢
  by_cases c1 : lo = (o.natAbs : Int) - 1
  · have e3 := hv c1
    have e4 : L.getD (lo + 1).toNat default = lo := by rw [e3]; exact hlo
    rw [e4] at eL
    by_cases c2 : o > 0
    · rw [if_pos ⟨c1, c2⟩]
      unfold stateOf
      rw [eR, eL, if_neg (show ¬o < 0 by omega), if_pos (show (o.natAbs : Int) = lo + 1 by omega), if_pos rfl]
      rfl
    · rw [if_neg (fun z => c2 z.2), if_pos c1]
      unfold stateOf
      rw [eR, eL, if_pos (show o < 0 by omega), if_neg (show ¬hi = lo + 1 by omega), if_pos rfl]
      rfl
  · rw [if_neg (fun z => c1 z.1), if_neg c1]
    have e5 : ¬(if o < 0 then hi else (o.natAbs : Int)) = lo + 1 := by split <;> omega
    have e6 : stateOf (apR L R o) (apL L R o) lo = if L.getD (lo + 1).toNat default = lo then ("right" : Str) else "lost" := by
      unfold stateOf
      rw [eR, if_neg e5, eL]
    rw [e6]
    unfold stateOf
    by_cases d1 : R.getD lo.toNat default = lo + 1
    · rw [if_pos d1]
      by_cases d2 : L.getD (lo + 1).toNat default = lo
      · rw [if_pos d2, if_pos d2, if_pos rfl]; rfl
      · rw [if_neg d2, if_neg d2, if_neg (by decide), if_pos rfl]; rfl
    · rw [if_neg d1]
      by_cases d2 : L.getD (lo + 1).toNat default = lo
      · rw [show (if L.getD (lo + 1).toNat default = lo then ("right" : Str) else "lost") = "right" from if_pos d2, if_neg (by decide), if_neg (by decide)]; rfl
      · rw [show (if L.getD (lo + 1).toNat default = lo then ("right" : Str) else "lost") = "lost" from if_neg d2, if_neg (by decide), if_neg (by decide)]; rfl
/-- the right of the two gaps -/
theorem ap_high {n : Int} {R L : List Int} {F : List Bool} (w : WF n R L F) {o : Int} (h : IsOp n o) : stateOf (apR L R o) (apL L R o) (R.getD o.natAbs default - 1) = (endB R L o).getD (stateOf R L (R.getD o.natAbs default - 1)) := by
  have h1 := h.1
  have h2 := h.2
  have q := w.at (v := o.natAbs) (by omega) h2
  have eR := ap_R w h (R.getD o.natAbs default - 1) (by omega)
  have eL := ap_L w h (R.getD o.natAbs default - 1) (by omega)
  rw [if_neg (by omega)] at eR
  rw [if_pos (by omega)] at eL
  unfold endB
  dsimp only
  have hv : R.getD o.natAbs default = (o.natAbs : Int) + 1 → R.getD (R.getD o.natAbs default - 1).toNat default = R.getD o.natAbs default := fun z => by rw [show (R.getD o.natAbs default - 1).toNat = o.natAbs by omega]
  generalize hlo : L.getD o.natAbs default = lo at q eR eL ⊢
  generalize hhi : R.getD o.natAbs default = hi at q eR eL hv ⊢
  rw [show hi - 1 + 1 = hi by omega] at eL
  by_cases c1 : hi = (o.natAbs : Int) + 1
  · have e4 : R.getD (hi - 1).toNat default = hi := hv c1
    rw [e4] at eR
    by_cases c2 : o > 0
    · rw [if_pos ⟨c1, c2⟩]
      unfold stateOf
      rw [eR, show hi - 1 + 1 = hi by omega, if_pos rfl, eL, if_neg (show ¬o < 0 by omega), if_pos (show (o.natAbs : Int) = hi - 1 by omega)]
      rfl
    · rw [if_neg (fun z => c2 z.2), if_pos c1]
      unfold stateOf
      rw [eR, show hi - 1 + 1 = hi by omega, if_pos rfl, eL, if_pos (show o < 0 by omega), if_neg (show ¬lo = hi - 1 by omega)]
      rfl
  · rw [if_neg (fun z => c1 z.1), if_neg c1]
    have e5 : ¬(if o < 0 then lo else (o.natAbs : Int)) = hi - 1 := by split <;> omega
    have e6 : stateOf (apR L R o) (apL L R o) (hi - 1) = if R.getD (hi - 1).toNat default = hi then ("left" : Str) else "lost" := by
      unfold stateOf
      rw [show hi - 1 + 1 = hi by omega, eL, if_neg e5, if_neg e5, eR]
    rw [e6]
    unfold stateOf
    rw [show hi - 1 + 1 = hi by omega]
    by_cases d1 : R.getD (hi - 1).toNat default = hi
    · rw [if_pos d1, if_pos d1]
      by_cases d2 : L.getD hi.toNat default = hi - 1
      · rw [if_pos d2, if_pos rfl]; rfl
      · rw [if_neg d2, if_neg (by decide), if_neg (by decide)]; rfl
    · rw [if_neg d1, if_neg d1]
      by_cases d2 : L.getD hi.toNat default = hi - 1
      · rw [if_pos d2, if_neg (by decide), if_pos rfl]; rfl
      · rw [if_neg d2, if_neg (by decide), if_neg (by decide)]; rfl

/-! ### rows of changes -/
def chgd (t : St3) (log : List Int) (g : Int) (i : Nat) : Prop := stAt t log (i + 1) g ≠ stAt t log i g
def rowF (t : St3) (log : List Int) (g : Int) : Nat → List Int
  | 0 => []
  | i + 1 => if stAt t log (i + 1) g = stAt t log i g then rowF t log g i else rowF t log g i ++ [(i : Int)]
theorem rowF_len (t : St3) (log : List Int) (g : Int) : ∀ i, (rowF t log g i).length ≤ i
  | 0 => Nat.le_refl _
  | i + 1 => by
    have := rowF_len t log g i
    rw [rowF]
    split
    · omega
    · rw [List.length_append]; simp; omega
theorem decF_lt (t : St3) (log : List Int) (g : Int) : ∀ k, -1 ≤ decF t log g k ∧ decF t log g k < (k : Int)
  | 0 => by rw [decF]; omega
  | k + 1 => by
    have := decF_lt t log g k
    rw [decF]
    split <;> omega
theorem rowF_last (t : St3) (log : List Int) (g : Int) : ∀ k, 0 ≤ decF t log g k → rowF t log g k = rowF t log g (decF t log g k).toNat ++ [decF t log g k]
  | 0, h => by rw [decF] at h; omega
  | k + 1, h => by
    rw [decF] at h ⊢
    rw [rowF]
    by_cases c : stAt t log (k + 1) g = stAt t log k g
    · rw [if_pos c] at h ⊢
      rw [if_pos c]
      exact rowF_last t log g k h
    · rw [if_neg c, if_neg c, Int.toNat_natCast]
/-- the state has stayed since -/
theorem stAt_dec (t : St3) (log : List Int) (g : Int) : ∀ k, (decF t log g k = -1 → stAt t log k g = stAt t log 0 g) ∧ (0 ≤ decF t log g k → stAt t log k g = stAt t log ((decF t log g k).toNat + 1) g ∧ stAt t log ((decF t log g k).toNat + 1) g ≠ stAt t log (decF t log g k).toNat g)
  | 0 => ⟨fun _ => rfl, fun h => by rw [decF] at h; omega⟩
  | k + 1 => by
    obtain ⟨h1, h2⟩ := stAt_dec t log g k
    rw [decF]
    by_cases c : stAt t log (k + 1) g = stAt t log k g
    · rw [if_pos c]
      exact ⟨fun z => c.trans (h1 z), fun z => ⟨c.trans (h2 z).1, (h2 z).2⟩⟩
    · rw [if_neg c, Int.toNat_natCast]
      exact ⟨fun z => by omega, fun _ => ⟨rfl, c⟩⟩
theorem stAt_cut (t : St3) (log : List Int) (g : Int) {m i : Nat} (h : i ≤ m) : stAt t (log.take m) i g = stAt t log i g := by
  unfold stAt
  rw [List.take_take, Nat.min_eq_left h]
theorem decF_cut (t : St3) (log : List Int) (g : Int) {m : Nat} : ∀ k, k ≤ m → decF t (log.take m) g k = decF t log g k
  | 0, _ => rfl
  | k + 1, h => by rw [decF, decF, stAt_cut t log g h, stAt_cut t log g (by omega), decF_cut t log g k (by omega)]
theorem s0_joined {n g : Int} (g0 : 0 ≤ g) (g1 : g ≤ n) : stateOf (s0 n).1 (s0 n).2.1 g = ("joined" : Str) := by
  rw [state_joined]
  unfold s0 r0 l0
  dsimp only
  constructor
  · rw [List.getD_eq_getElem?_getD, List.getElem?_map, List.getElem?_range (by omega)]
    show ((g.toNat : Nat) : Int) + 1 = g + 1
    omega
  · rw [List.getD_eq_getElem?_getD, List.getElem?_map, List.getElem?_range (by omega)]
    show (((g + 1).toNat : Nat) : Int) - 1 = g
    omega
/-- no gap is lost at once -/
theorem no_jump {n : Int} {s : St3} (W : WFs n s) {o g : Int} (h : IsOp n o) (g0 : 0 ≤ g) (j : stateOf s.1 s.2.1 g = ("joined" : Str)) : stateOf (stS s o).1 (stS s o).2.1 g ≠ ("lost" : Str) := by
  intro z
  obtain ⟨j1, j2⟩ := state_joined.mp j
  obtain ⟨z1, z2⟩ := state_lost.mp z
  have q := WF.at W (v := o.natAbs) (by have := h.1; omega) h.2
  have e1 := ap_R W h g g0
  have e2 := ap_L W h g g0
  by_cases c : g = s.2.1.getD o.natAbs default
  · refine z2 ?_
    show (apL s.2.1 s.1 o).getD (g + 1).toNat default = g
    rw [e2, if_neg (by omega)]
    exact j2
  · refine z1 ?_
    show (apR s.2.1 s.1 o).getD g.toNat default = g + 1
    rw [e1, if_neg c]
    exact j1
/-- the two last changes of a gap -/
def secF (n : Int) (log : List Int) (g : Int) : Int := decF (s0 n) log g log.length
def fstF (n : Int) (log : List Int) (g : Int) : Int := decF (s0 n) log g (secF n log g).toNat
def certT (n : Int) (log : List Int) (g : Int) : List V := [.int g, .int (fstF n log g), .int (secF n log g)]
abbrev lostE (n : Int) (log : List Int) : List Int := lostF n (runS (s0 n) log).1 (runS (s0 n) log).2.1
theorem lostF_mem {n : Int} {R L : List Int} {g : Int} : g ∈ lostF n R L ↔ 0 ≤ g ∧ g ≤ n ∧ stateOf R L g = ("lost" : Str) := by
  unfold lostF
  rw [List.mem_filterMap]
  constructor
  · rintro ⟨i, hi, e⟩
    rw [List.mem_range] at hi
    split at e
    · rename_i c
      cases e
      exact ⟨by omega, by omega, c⟩
    · cases e
  · rintro ⟨g0, g1, c⟩
    refine ⟨g.toNat, List.mem_range.mpr (by omega), ?_⟩
    rw [show ((g.toNat : Nat) : Int) = g by omega, if_pos c]
theorem cert_ok {n : Int} {log : List Int} (n0 : 0 ≤ n) (n1 : n ≤ 60) (hok : okTo n (s0 n) log log.length) {g : Int} (g0 : 0 ≤ g) (g1 : g ≤ n) (l : stAt (s0 n) log log.length g = ("lost" : Str)) :
    0 ≤ fstF n log g ∧ fstF n log g < secF n log g ∧ secF n log g < (log.length : Int) ∧ rowF (s0 n) log g log.length = rowF (s0 n) log g (fstF n log g).toNat ++ [fstF n log g, secF n log g] := by
  have W0 := wfs0 n0 n1
  have z0 : stAt (s0 n) log 0 g = ("joined" : Str) := by
    unfold stAt
    rw [List.take_zero]
    exact s0_joined g0 g1
  have b2 := decF_lt (s0 n) log g log.length
  obtain ⟨a1, a2⟩ := stAt_dec (s0 n) log g log.length
  have s2 : 0 ≤ secF n log g := by
    unfold secF
    rcases Int.lt_or_le (decF (s0 n) log g log.length) 0 with c | c
    · have := a1 (by omega)
      rw [l, z0] at this
      cases this
    · exact c
  obtain ⟨a3, a4⟩ := a2 s2
  have b1 := decF_lt (s0 n) log g (secF n log g).toNat
  obtain ⟨c1, c2⟩ := stAt_dec (s0 n) log g (secF n log g).toNat
  have s1 : 0 ≤ fstF n log g := by
    unfold fstF
    rcases Int.lt_or_le (decF (s0 n) log g (secF n log g).toNat) 0 with c | c
    · exfalso
      have hj := (c1 (by omega)).trans z0
      have hlt : (secF n log g).toNat < log.length := by unfold secF at s2 ⊢; omega
      have hu : log[(secF n log g).toNat]? = some log[(secF n log g).toNat] := List.getElem?_eq_getElem hlt
      have hO := hok _ _ hlt hu
      have Wi := runS_wf W0 (secF n log g).toNat (by omega) (fun j o hj ho => hok j o (by omega) ho)
      refine no_jump Wi hO.1 g0 hj ?_
      rw [← stAt_succ hu]
      exact a3.symm.trans l
    · exact c
  refine ⟨s1, ?_, b2.2, ?_⟩
  · unfold fstF at s1 ⊢
    omega
  · have e1 := rowF_last (s0 n) log g log.length s2
    have e2 := rowF_last (s0 n) log g (secF n log g).toNat s1
    have e1 : rowF (s0 n) log g log.length = rowF (s0 n) log g (secF n log g).toNat ++ [secF n log g] := e1
    have e2 : rowF (s0 n) log g (secF n log g).toNat = rowF (s0 n) log g (fstF n log g).toNat ++ [fstF n log g] := e2
    rw [e1, e2, List.append_assoc]; rfl
theorem cut_two {xs : List Int} {x y : Int} : (xs ++ [x, y]).length = xs.length + 2 ∧ (xs ++ [x, y]).getD ((xs ++ [x, y]).length - 2) default = x ∧ (xs ++ [x, y]).getD ((xs ++ [x, y]).length - 1) default = y := by
  refine ⟨by simp, ?_, ?_⟩
  · rw [List.getD_eq_getElem?_getD, List.getElem?_append_right (by simp)]
    simp
  · rw [List.getD_eq_getElem?_getD, List.getElem?_append_right (by simp)]
    simp
/-! ### the law's book, drawn logs -/
def sp__law_whole (a : AD) : Sp := fun vs H Q _ => ∃ (n : Int), vs = [.int n] ∧ 0 ≤ n ∧ n ≤ 60 ∧ ∀ (w l r f : Addr) (H' : Hp), H w = none → H l = none → H r = none → H f = none → Bk H' w l r f n (s0 n) → Kp [] H H' → Q (.ref w) H'
theorem sc__law_whole : FnScope ["_law_size_here", "_law_node"] ["_law_size_here"] (defScope s__law_whole) := ⟨rfl, rfl, rfl, by decide +kernel, rfl, by decide +kernel, by decide +kernel⟩
theorem ok__law_whole {P : Program} {w : World} {K : PySem.W.Frag} {mg : Str → Option Value} {base : Heap} {a : AD} (T : Txt P K mg a) : FnA P w K mg base 2 a.f__law_whole ["_law_size_here"] (sp__law_whole a) := by
  obtain ⟨fd, F, b⟩ := T.F__law_whole
  refine FnA.of F sc__law_whole b (fun vs H Q E h => by first | (obtain ⟨rfl, _⟩ := h; rfl) | (obtain ⟨_, rfl, _⟩ := h; rfl) | (obtain ⟨_, _, rfl, _⟩ := h; rfl) | (obtain ⟨_, _, _, rfl, _⟩ := h; rfl) | (obtain ⟨_, _, _, _, rfl, _⟩ := h; rfl) | (obtain ⟨_, _, _, _, _, rfl, _⟩ := h; rfl) | (obtain ⟨_, _, _, _, _, _, rfl, _⟩ := h; rfl) | (obtain ⟨_, _, _, _, _, _, _, rfl, _⟩ := h; rfl) | (obtain ⟨_, _, _, _, _, _, _, _, rfl, _⟩ := h; rfl) | (obtain ⟨_, _, _, _, _, _, _, _, _, rfl, _⟩ := h; rfl) | (obtain ⟨_, _, _, _, _, _, _, _, _, _, rfl, _⟩ := h; rfl) | (obtain ⟨_, _, _, _, _, _, _, _, _, _, _, rfl, _⟩ := h; rfl) | (obtain ⟨_, _, _, _, _, _, _, _, _, _, _, _, rfl, _⟩ := h; rfl) | (obtain ⟨_, _, _, _, _, _, _, _, _, _, _, _, _, rfl, _⟩ := h; rfl) | (obtain ⟨_, _, _, _, _, _, _, _, _, _, _, _, _, _, rfl, _⟩ := h; rfl) | (obtain ⟨_, _, _, _, _, _, _, _, _, _, _, _, _, _, _, rfl, _⟩ := h; rfl) | (obtain ⟨_, _, _, _, _, _, _, _, _, _, _, _, _, _, _, _, rfl, _⟩ := h; rfl) | (obtain ⟨_, _, _, _, _, _, _, _, _, _, _, _, _, _, _, _, _, rfl, _⟩ := h; rfl) | (obtain ⟨_, _, _, _, _, _, _, _, _, _, _, _, _, _, _, _, _, _, rfl, _⟩ := h; rfl) | (obtain ⟨_, _, _, _, _, _, _, _, _, _, _, _, _, _, _, _, _, _, _, rfl, _⟩ := h; rfl) | (obtain ⟨_, _, _, _, _, _, _, _, _, _, _, _, _, _, _, _, _, _, _, _, rfl, _⟩ := h; rfl) | (obtain ⟨_, _, _, _, _, _, _, _, _, _, _, _, _, _, _, _, _, _, _, _, _, rfl, _⟩ := h; rfl) | (obtain ⟨_, _, _, _, _, _, _, _, _, _, _, _, _, _, _, _, _, _, _, _, _, _, rfl, _⟩ := h; rfl) | (obtain ⟨_, _, _, _, _, _, _, _, _, _, _, _, _, _, _, _, _, _, _, _, _, _, _, rfl, _⟩ := h; rfl)) (fun cdv A outer s H vs Q E hr tk pz h => ?_)
  have hu := hr.units
  have hrH := L2H.roomH_of hr
  obtain ⟨n, rfl, n0, n1, k⟩ := h
  refine ⟨_, (pss_one (ps_ret (pe_lst (pa_cons (pv 0) (pa_cons (pe_lc (own := [("_law_node", 1)]) (g := (gName 1)) (tt := tYes) rfl sc__law_whole.nd (pi_range1 rfl T.b_range (pa_cons (pe_op o_add (pv 0) pe_int) pa_nil)) (blkOk_by (own := [("_law_node", 1)]) (N := ["_law_size_here", "_law_node"]) (sc := defScope s__law_whole) (by decide +kernel)) (fun _ _ _ _ _ => (pg_name (i := 1) sc__law_whole.nd rfl (Or.inl rfl))) (fun _ _ _ _ _ => pts_nil) (fun _ _ _ _ _ => (pe_op op_sub (pv 1) pe_int))) (pa_cons (pe_lc (own := [("_law_node", 1)]) (g := (gName 1)) (tt := tYes) rfl sc__law_whole.nd (pi_range1 rfl T.b_range (pa_cons (pe_op o_add (pv 0) pe_int) pa_nil)) (blkOk_by (own := [("_law_node", 1)]) (N := ["_law_size_here", "_law_node"]) (sc := defScope s__law_whole) (by decide +kernel)) (fun _ _ _ _ _ => (pg_name (i := 1) sc__law_whole.nd rfl (Or.inl rfl))) (fun _ _ _ _ _ => pts_nil) (fun _ _ _ _ _ => (pe_op o_add (pv 1) pe_int))) (pa_cons (pe_lc (own := [("_law_node", 1)]) (g := (gName 1)) (tt := tYes) rfl sc__law_whole.nd (pi_range1 rfl T.b_range (pa_cons (pe_op o_add (pv 0) pe_int) pa_nil)) (blkOk_by (own := [("_law_node", 1)]) (N := ["_law_size_here", "_law_node"]) (sc := defScope s__law_whole) (by decide +kernel)) (fun _ _ _ _ _ => (pg_name (i := 1) sc__law_whole.nd rfl (Or.inl rfl))) (fun _ _ _ _ _ => pts_nil) (fun _ _ _ _ _ => pe_bl)) pa_nil))))))), ?_⟩
  show (_ : Ends → L2.St → Hp → Prop) _ [some _, none] _
  try dsimp only [L2H.cxH, cxOf]
  walk_at "w"
  refine w_lcR1 (f' := V.int) (fun i : Nat => some ((i : Int) - 1)) (n := n + 2) (by omega) (by omega) (by rw [sizeLine_eq]; omega) ?_ ?_
  · intro D i acc H' hD hi hk hA hlen
    walk_at "w"
    refine ⟨rfl, ?_⟩
    walk_at "w"
    exact w_keep hk hA hlen hD rfl
  intro l H2 hl hk2 hL
  rw [fm_some] at hL
  have hL : H2 l = some (.lst ((l0 n).map V.int)) := hL
  walk_at "w"
  refine w_lcR1 (f' := V.int) (fun i : Nat => some ((i : Int) + 1)) (n := n + 2) (by omega) (by omega) (by rw [sizeLine_eq]; omega) ?_ ?_
  · intro D i acc H' hD hi hk hA hlen
    walk_at "w"
    refine ⟨rfl, ?_⟩
    walk_at "w"
    exact w_keep hk hA hlen hD rfl
  intro r H3 hr hk3 hR
  rw [fm_some, show (n + 2).toNat = (n + 1).toNat + 1 by omega, List.range_succ, List.map_append] at hR
  have hR : H3 r = some (.lst ((r0 n ++ [n + 2]).map V.int)) := by
    rw [hR]
    unfold r0
    rw [List.map_cons, List.map_nil, show ((n + 1).toNat : Int) + 1 = n + 2 by omega]
  walk_at "w"
  refine w_lcR1 (f' := V.bl) (fun i : Nat => some false) (n := n + 2) (by omega) (by omega) (by rw [sizeLine_eq]; omega) ?_ ?_
  · intro D i acc H' hD hi hk hA hlen
    walk_at "w"
    refine ⟨rfl, ?_⟩
    walk_at "w"
    exact w_keep hk hA hlen hD rfl
  intro f H4 hf hk4 hF
  rw [fm_rep] at hF
  walk_at "w"
  intro w hw
  have lr : l ≠ r := ne_of_none hL hr
  have lf : l ≠ f := ne_of_none (hk3.at0 hL) hf
  have rf : r ≠ f := ne_of_none hR hf
  have hL4 := hk4.at0 (hk3.at0 hL)
  have hR4 := hk4.at0 hR
  exact k w l r f _ (hk2.free (hk3.free (hk4.free hw))) hl (hk2.free hr) (hk2.free (hk3.free hf)) ⟨upd_same, upd_new hw hL4, upd_new hw hR4, upd_new hw hF, Ne.symm (ne_of_none hL4 hw), Ne.symm (ne_of_none hR4 hw), Ne.symm (ne_of_none hF hw), lr, lf, rf⟩ (((hk2.trans0 hk3).trans0 hk4).new hw)
def sp__law_state (a : AD) : Sp := fun vs H Q _ => ∃ (w l r f : Addr) (n g : Int) (s : St3), vs = [.ref w, .int g] ∧ Bk H w l r f n s ∧ WFs n s ∧ 0 ≤ g ∧ g ≤ n ∧ Q (.str (stateOf s.1 s.2.1 g)) H
theorem sc__law_state : FnScope ["_law_book", "_law_gap", "_law_low", "_law_high"] ["_law_book", "_law_gap"] (defScope s__law_state) := ⟨rfl, rfl, rfl, by decide +kernel, rfl, by decide +kernel, by decide +kernel⟩
theorem ok__law_state {P : Program} {w : World} {K : PySem.W.Frag} {mg : Str → Option Value} {base : Heap} {a : AD} (T : Txt P K mg a) : FnA P w K mg base 2 a.f__law_state ["_law_book", "_law_gap"] (sp__law_state a) := by
  obtain ⟨fd, F, b⟩ := T.F__law_state
  refine FnA.of F sc__law_state b (fun vs H Q E h => by first | (obtain ⟨rfl, _⟩ := h; rfl) | (obtain ⟨_, rfl, _⟩ := h; rfl) | (obtain ⟨_, _, rfl, _⟩ := h; rfl) | (obtain ⟨_, _, _, rfl, _⟩ := h; rfl) | (obtain ⟨_, _, _, _, rfl, _⟩ := h; rfl) | (obtain ⟨_, _, _, _, _, rfl, _⟩ := h; rfl) | (obtain ⟨_, _, _, _, _, _, rfl, _⟩ := h; rfl) | (obtain ⟨_, _, _, _, _, _, _, rfl, _⟩ := h; rfl) | (obtain ⟨_, _, _, _, _, _, _, _, rfl, _⟩ := h; rfl) | (obtain ⟨_, _, _, _, _, _, _, _, _, rfl, _⟩ := h; rfl) | (obtain ⟨_, _, _, _, _, _, _, _, _, _, rfl, _⟩ := h; rfl) | (obtain ⟨_, _, _, _, _, _, _, _, _, _, _, rfl, _⟩ := h; rfl) | (obtain ⟨_, _, _, _, _, _, _, _, _, _, _, _, rfl, _⟩ := h; rfl) | (obtain ⟨_, _, _, _, _, _, _, _, _, _, _, _, _, rfl, _⟩ := h; rfl) | (obtain ⟨_, _, _, _, _, _, _, _, _, _, _, _, _, _, rfl, _⟩ := h; rfl) | (obtain ⟨_, _, _, _, _, _, _, _, _, _, _, _, _, _, _, rfl, _⟩ := h; rfl) | (obtain ⟨_, _, _, _, _, _, _, _, _, _, _, _, _, _, _, _, rfl, _⟩ := h; rfl) | (obtain ⟨_, _, _, _, _, _, _, _, _, _, _, _, _, _, _, _, _, rfl, _⟩ := h; rfl) | (obtain ⟨_, _, _, _, _, _, _, _, _, _, _, _, _, _, _, _, _, _, rfl, _⟩ := h; rfl) | (obtain ⟨_, _, _, _, _, _, _, _, _, _, _, _, _, _, _, _, _, _, _, rfl, _⟩ := h; rfl) | (obtain ⟨_, _, _, _, _, _, _, _, _, _, _, _, _, _, _, _, _, _, _, _, rfl, _⟩ := h; rfl) | (obtain ⟨_, _, _, _, _, _, _, _, _, _, _, _, _, _, _, _, _, _, _, _, _, rfl, _⟩ := h; rfl) | (obtain ⟨_, _, _, _, _, _, _, _, _, _, _, _, _, _, _, _, _, _, _, _, _, _, rfl, _⟩ := h; rfl) | (obtain ⟨_, _, _, _, _, _, _, _, _, _, _, _, _, _, _, _, _, _, _, _, _, _, _, rfl, _⟩ := h; rfl)) (fun cdv A outer s H vs Q E hr tk pz h => ?_)
  have hu := hr.units
  have hrH := L2H.roomH_of hr
  obtain ⟨w, l, r, f, n, g, s, rfl, ⟨hw, hl, hr', hf, _⟩, W, g0, g1, k⟩ := h
  refine ⟨_, (pss_cons (ps_set (i := 2) sc__law_state.nd rfl (Or.inl rfl) (pe_cmpR (o_eq hu) (pe_ix ix_seq (pe_ix ix_seq (pv 0) pe_int (fun _ _ => rfl)) (pv 1) (fun _ _ => rfl)) (pe_op o_add (pv 1) pe_int) (nomark _)))
      (pss_cons (ps_set (i := 3) sc__law_state.nd rfl (Or.inl rfl) (pe_cmpR (o_eq hu) (pe_ix ix_seq (pe_ix ix_seq (pv 0) pe_int (fun _ _ => rfl)) (pe_op o_add (pv 1) pe_int) (fun _ _ => rfl)) (pv 1) (nomark _)))
      (pss_cons (ps_if (PW.pt (pw_and (pt_tru (pv 2)) (pw_and1 (pt_tru (pv 3))))) (pss_one (ps_ret pe_str)) pss_nil)
      (pss_cons (ps_if (pt_tru (pv 2)) (pss_one (ps_ret pe_str)) pss_nil)
      (pss_cons (ps_if (pt_tru (pv 3)) (pss_one (ps_ret pe_str)) pss_nil)
      (pss_one (ps_ret pe_str))))))), ?_⟩
  show (_ : Ends → L2.St → Hp → Prop) _ [some _, some _, none, none] _
  try dsimp only [L2H.cxH, cxOf]
  have n1 := WF.n1 W
  have hL := WF.hL W
  have hla := bk_len W
  have eR := gd_app' W (x := n + 2) (i := g.toNat) (by omega)
  unfold stateOf at k
  walk_at "w"
  rw [eR]
  by_cases c1 : s.1.getD g.toNat default = g + 1
  · rw [if_pos c1] at k
    rw [show decide (s.1.getD g.toNat default = g + 1) = true by simpa using c1]
    by_cases c2 : s.2.1.getD (g + 1).toNat default = g
    · rw [if_pos c2] at k
      rw [show decide (s.2.1.getD (g + 1).toNat default = g) = true by simpa using c2]
      walk_at "w"
      exact k
    · rw [if_neg c2] at k
      rw [show decide (s.2.1.getD (g + 1).toNat default = g) = false by simpa using c2]
      walk_at "w"
      exact k
  · rw [if_neg c1] at k
    rw [show decide (s.1.getD g.toNat default = g + 1) = false by simpa using c1]
    by_cases c2 : s.2.1.getD (g + 1).toNat default = g
    · rw [if_pos c2] at k
      rw [show decide (s.2.1.getD (g + 1).toNat default = g) = true by simpa using c2]
      walk_at "w"
      exact k
    · rw [if_neg c2] at k
      rw [show decide (s.2.1.getD (g + 1).toNat default = g) = false by simpa using c2]
      walk_at "w"
      exact k
def sp__law_size (a : AD) : Sp := fun vs H Q _ => ∃ (b q : Addr), vs = [.ref b] ∧ Box H b q ∧ ∀ (r : Int) (H' : Hp), 0 ≤ r → r ≤ 60 → Box H' b q → Kp [b] H H' → Q (.int r) H'
theorem sc__law_size : FnScope ["_law_bag_here", "_law_size_here"] ["_law_bag_here"] (defScope s__law_size) := ⟨rfl, rfl, rfl, by decide +kernel, rfl, by decide +kernel, by decide +kernel⟩
theorem ok__law_size {P : Program} {w : World} {K : PySem.W.Frag} {mg : Str → Option Value} {base : Heap} {a : AD} (T : Txt P K mg a) (G__law_draw : FnA P w K mg base 2 a.f__law_draw ["_law_bag_here", "_law_many"] (sp__law_draw a)) : FnA P w K mg base 3 a.f__law_size ["_law_bag_here"] (sp__law_size a) := by
  obtain ⟨fd, F, b⟩ := T.F__law_size
  refine FnA.of F sc__law_size b (fun vs H Q E h => by first | (obtain ⟨rfl, _⟩ := h; rfl) | (obtain ⟨_, rfl, _⟩ := h; rfl) | (obtain ⟨_, _, rfl, _⟩ := h; rfl) | (obtain ⟨_, _, _, rfl, _⟩ := h; rfl) | (obtain ⟨_, _, _, _, rfl, _⟩ := h; rfl) | (obtain ⟨_, _, _, _, _, rfl, _⟩ := h; rfl) | (obtain ⟨_, _, _, _, _, _, rfl, _⟩ := h; rfl) | (obtain ⟨_, _, _, _, _, _, _, rfl, _⟩ := h; rfl) | (obtain ⟨_, _, _, _, _, _, _, _, rfl, _⟩ := h; rfl) | (obtain ⟨_, _, _, _, _, _, _, _, _, rfl, _⟩ := h; rfl) | (obtain ⟨_, _, _, _, _, _, _, _, _, _, rfl, _⟩ := h; rfl) | (obtain ⟨_, _, _, _, _, _, _, _, _, _, _, rfl, _⟩ := h; rfl) | (obtain ⟨_, _, _, _, _, _, _, _, _, _, _, _, rfl, _⟩ := h; rfl) | (obtain ⟨_, _, _, _, _, _, _, _, _, _, _, _, _, rfl, _⟩ := h; rfl) | (obtain ⟨_, _, _, _, _, _, _, _, _, _, _, _, _, _, rfl, _⟩ := h; rfl) | (obtain ⟨_, _, _, _, _, _, _, _, _, _, _, _, _, _, _, rfl, _⟩ := h; rfl) | (obtain ⟨_, _, _, _, _, _, _, _, _, _, _, _, _, _, _, _, rfl, _⟩ := h; rfl) | (obtain ⟨_, _, _, _, _, _, _, _, _, _, _, _, _, _, _, _, _, rfl, _⟩ := h; rfl) | (obtain ⟨_, _, _, _, _, _, _, _, _, _, _, _, _, _, _, _, _, _, rfl, _⟩ := h; rfl) | (obtain ⟨_, _, _, _, _, _, _, _, _, _, _, _, _, _, _, _, _, _, _, rfl, _⟩ := h; rfl) | (obtain ⟨_, _, _, _, _, _, _, _, _, _, _, _, _, _, _, _, _, _, _, _, rfl, _⟩ := h; rfl) | (obtain ⟨_, _, _, _, _, _, _, _, _, _, _, _, _, _, _, _, _, _, _, _, _, rfl, _⟩ := h; rfl) | (obtain ⟨_, _, _, _, _, _, _, _, _, _, _, _, _, _, _, _, _, _, _, _, _, _, rfl, _⟩ := h; rfl) | (obtain ⟨_, _, _, _, _, _, _, _, _, _, _, _, _, _, _, _, _, _, _, _, _, _, _, rfl, _⟩ := h; rfl)) (fun cdv A outer s H vs Q E hr tk pz h => ?_)
  have hu := hr.units
  have hrH := L2H.roomH_of hr
  obtain ⟨b, q, rfl, hB, k⟩ := h
  refine ⟨_, (pss_cons (ps_set (i := 1) sc__law_size.nd rfl (Or.inl rfl) (pe_ix ix_seq (pe_lst (pa_cons pe_int (pa_cons pe_int (pa_cons pe_int (pa_cons pe_int (pa_cons pe_int (pa_cons pe_int (pa_cons pe_int (pa_cons pe_int (pa_cons pe_int (pa_cons pe_int (pa_cons pe_int (pa_cons pe_int (pa_cons pe_int pa_nil)))))))))))))) (pe_callA G__law_draw (Room.mono hr (by decide)) T.n__law_draw tk (pa_cons (pv 0) (pa_cons pe_int pa_nil))) (fun _ _ => rfl)))
      (pss_cut (ps_if (pt_cmpA (o_eq hu) (pv 1) pe_int (nomark _)) (pss_one (ps_set (i := 1) sc__law_size.nd rfl (Or.inl rfl) (pe_op o_add pe_int (pe_callA G__law_draw (Room.mono hr (by decide)) T.n__law_draw tk (pa_cons (pv 0) (pa_cons pe_int pa_nil)))))) pss_nil)
      (pss_cons (ps_if (pt_cmpA (o_eq hu) (pv 1) pe_int (nomark _)) (pss_one (ps_set (i := 1) sc__law_size.nd rfl (Or.inl rfl) (pe_op o_add pe_int (pe_op o_mul pe_int (pe_callA G__law_draw (Room.mono hr (by decide)) T.n__law_draw tk (pa_cons (pv 0) (pa_cons pe_int pa_nil))))))) pss_nil)
      (pss_one (ps_ret (pv 1)))))), ?_⟩
  show (_ : Ends → L2.St → Hp → Prop) _ [some _, none] _
  try dsimp only [L2H.cxH, cxOf]
  walk_at "w"
  intro t ht
  have kt := Kp.refl.new (ms := [b]) (o := .lst (([4, 6, 9, 5, 11, 8, 15, 3, 2, 10, 0, 20, 7] : List Int).map V.int)) ht
  have ht1 : upd H t (.lst (([4, 6, 9, 5, 11, 8, 15, 3, 2, 10, 0, 20, 7] : List Int).map V.int)) t = some (.lst (([4, 6, 9, 5, 11, 8, 15, 3, 2, 10, 0, 20, 7] : List Int).map V.int)) := upd_same
  have B0 := hB.new (o := .lst (([4, 6, 9, 5, 11, 8, 15, 3, 2, 10, 0, 20, 7] : List Int).map V.int)) ht
  have tb := hB.b ht
  show (_ : Prop)
  have e : (HO.lst [.int 4, .int 6, .int 9, .int 5, .int 11, .int 8, .int 15, .int 3, .int 2, .int 10, .int 0, .int 20, .int 7]) = .lst (([4, 6, 9, 5, 11, 8, 15, 3, 2, 10, 0, 20, 7] : List Int).map V.int) := rfl
  rw [e]
  generalize upd H t (.lst (([4, 6, 9, 5, 11, 8, 15, 3, 2, 10, 0, 20, 7] : List Int).map V.int)) = H0 at kt ht1 B0 ⊢
  walk_at "w"
  refine ⟨b, q, _, rfl, B0, by omega, by omega, fun x H1 x0 x1 B1 k1 => ?_⟩
  have ht2 := k1 t _ ht1 (by simpa using tb)
  have hx : ∀ y ∈ ([4, 6, 9, 5, 11, 8, 15, 3, 2, 10, 0, 20, 7] : List Int), 0 ≤ y ∧ y ≤ 20 := by decide
  have hg : 0 ≤ ([4, 6, 9, 5, 11, 8, 15, 3, 2, 10, 0, 20, 7] : List Int).getD x.toNat default ∧ ([4, 6, 9, 5, 11, 8, 15, 3, 2, 10, 0, 20, 7] : List Int).getD x.toNat default ≤ 20 := by
    refine hx _ ?_
    rw [List.getD_eq_getElem?_getD, List.getElem?_eq_getElem (by simp; omega)]
    exact List.getElem_mem _
  have k01 := kt.trans k1
  walk_at "w"
  generalize ([4, 6, 9, 5, 11, 8, 15, 3, 2, 10, 0, 20, 7] : List Int).getD x.toNat default = y at hg ⊢
  refine s_cut (fun σ' H' => ∃ y : Int, 0 ≤ y ∧ y ≤ 60 ∧ σ' = [some (.ref b), some (.int y)] ∧ Box H' b q ∧ Kp [b] H H') ?_ ?_
  · walk_at "w"
    refine w_ite (fun c => ?_) (fun c => ?_)
    · walk_at "w"
      refine ⟨b, q, _, rfl, B1, by omega, by omega, fun z H2 z0 z1 B2 k2 => ?_⟩
      walk_at "w"
      exact ⟨_, by omega, by omega, rfl, B2, k01.trans k2⟩
    · walk_at "w"
      exact ⟨_, by omega, by omega, rfl, B1, k01⟩
  · rintro σ' H2 ⟨y, y0, y1, rfl, B2, k2⟩
    walk_at "w"
    refine w_ite (fun c => ?_) (fun c => ?_)
    · walk_at "w"
      refine ⟨b, q, _, rfl, B2, by omega, by omega, fun z H3 z0 z1 B3 k3 => ?_⟩
      walk_at "w"
      exact k _ _ (by omega) (by omega) B3 (k2.trans k3)
    · walk_at "w"
      exact k _ _ (by omega) (by omega) B2 k2
/-! ### lanes -/
def lanO (n : Int) (H0 H : Hp) (p : Addr) (qs : List Addr) (ρ : Addr → List Int) : Prop :=
  H p = some (.lst (qs.map V.ref)) ∧ H0 p = none ∧ (∀ q ∈ qs, H0 q = none ∧ q ≠ p ∧ H q = some (.lst ((ρ q).map V.int)) ∧ (ρ q).length ≤ 20 ∧ ∀ x ∈ ρ q, 1 ≤ x ∧ x ≤ n)
theorem lanO.kp {n : Int} {ms : List Addr} {H0 H H' : Hp} {p : Addr} {qs : List Addr} {ρ : Addr → List Int} (h : lanO n H0 H p qs ρ) (k : Kp ms H H') (hm : ∀ m ∈ ms, ∃ o, H0 m = some o) : lanO n H0 H' p qs ρ := by
  have off : ∀ z, H0 z = none → z ∉ ms := fun z hz hm' => by
    obtain ⟨o, e⟩ := hm z hm'
    rw [hz] at e; cases e
  exact ⟨k p _ h.1 (off p h.2.1), h.2.1, fun q hq => ⟨(h.2.2 q hq).1, (h.2.2 q hq).2.1, k q _ (h.2.2 q hq).2.2.1 (off q (h.2.2 q hq).1), (h.2.2 q hq).2.2.2⟩⟩
theorem lanO.kp0 {n : Int} {H0 H H' : Hp} {p : Addr} {qs : List Addr} {ρ : Addr → List Int} (h : lanO n H0 H p qs ρ) (k : Kp [] H H') : lanO n H0 H' p qs ρ := h.kp k (fun m hm => by cases hm)
/-- one lane more -/
theorem lanO.app {n : Int} {H0 H : Hp} {p : Addr} {qs : List Addr} {ρ : Addr → List Int} (h : lanO n H0 H p qs ρ) {q : Addr} {xs : List Int} (hq : H q = some (.lst (xs.map V.int))) (hn : q ∉ qs) (hp : q ≠ p) (h0 : H0 q = none) (hl : xs.length ≤ 20) (hx : ∀ x ∈ xs, 1 ≤ x ∧ x ≤ n) : lanO n H0 (upd H p (.lst ((qs ++ [q]).map V.ref))) p (qs ++ [q]) (fun z => if z = q then xs else ρ z) := by
  refine ⟨upd_same, h.2.1, fun z hz => ?_⟩
  rcases List.mem_append.mp hz with c | c
  · have hne : z ≠ q := fun e => hn (e ▸ c)
    obtain ⟨a1, a2, a3, a4⟩ := h.2.2 z c
    dsimp only
    rw [if_neg hne]
    exact ⟨a1, a2, upd_get a2 a3, a4⟩
  · obtain rfl := List.mem_singleton.mp c
    dsimp only
    rw [if_pos rfl]
    exact ⟨h0, hp, upd_get hp hq, hl, hx⟩
theorem map_app1 {q : Addr} {qs : List Addr} : qs.map V.ref ++ [.ref q] = (qs ++ [q]).map V.ref := by rw [List.map_append]; rfl
theorem Box.liveb {H : Hp} {b q : Addr} (B : Box H b q) : ∀ m ∈ [b], ∃ o, H m = some o := fun m hm => B.live m (by simp at hm; simp [hm])
def sp__law_lanes (a : AD) : Sp := fun vs H Q _ => ∃ (b q : Addr) (n : Int), vs = [.ref b, .int n] ∧ Box H b q ∧ 0 ≤ n ∧ n ≤ 60 ∧ ∀ (p : Addr) (qs : List Addr) (ρ : Addr → List Int) (H' : Hp), lanO n H H' p qs ρ → qs.length ≤ 3 → Box H' b q → Kp [b] H H' → Q (.ref p) H'
theorem sc__law_lanes : FnScope ["_law_bag_here", "_law_size_here", "_law_lanes_here", "_law_start", "_law_turn", "_law_lane", "_law_node"] ["_law_bag_here", "_law_size_here"] (defScope s__law_lanes) := ⟨rfl, rfl, rfl, by decide +kernel, rfl, by decide +kernel, by decide +kernel⟩
theorem ok__law_lanes {P : Program} {w : World} {K : PySem.W.Frag} {mg : Str → Option Value} {base : Heap} {a : AD} (T : Txt P K mg a) (G__law_draw : FnA P w K mg base 2 a.f__law_draw ["_law_bag_here", "_law_many"] (sp__law_draw a)) : FnA P w K mg base 3 a.f__law_lanes ["_law_bag_here", "_law_size_here"] (sp__law_lanes a) := by
  obtain ⟨fd, F, b⟩ := T.F__law_lanes
  refine FnA.of F sc__law_lanes b (fun vs H Q E h => by first | (obtain ⟨rfl, _⟩ := h; rfl) | (obtain ⟨_, rfl, _⟩ := h; rfl) | (obtain ⟨_, _, rfl, _⟩ := h; rfl) | (obtain ⟨_, _, _, rfl, _⟩ := h; rfl) | (obtain ⟨_, _, _, _, rfl, _⟩ := h; rfl) | (obtain ⟨_, _, _, _, _, rfl, _⟩ := h; rfl) | (obtain ⟨_, _, _, _, _, _, rfl, _⟩ := h; rfl) | (obtain ⟨_, _, _, _, _, _, _, rfl, _⟩ := h; rfl) | (obtain ⟨_, _, _, _, _, _, _, _, rfl, _⟩ := h; rfl) | (obtain ⟨_, _, _, _, _, _, _, _, _, rfl, _⟩ := h; rfl) | (obtain ⟨_, _, _, _, _, _, _, _, _, _, rfl, _⟩ := h; rfl) | (obtain ⟨_, _, _, _, _, _, _, _, _, _, _, rfl, _⟩ := h; rfl) | (obtain ⟨_, _, _, _, _, _, _, _, _, _, _, _, rfl, _⟩ := h; rfl) | (obtain ⟨_, _, _, _, _, _, _, _, _, _, _, _, _, rfl, _⟩ := h; rfl) | (obtain ⟨_, _, _, _, _, _, _, _, _, _, _, _, _, _, rfl, _⟩ := h; rfl) | (obtain ⟨_, _, _, _, _, _, _, _, _, _, _, _, _, _, _, rfl, _⟩ := h; rfl) | (obtain ⟨_, _, _, _, _, _, _, _, _, _, _, _, _, _, _, _, rfl, _⟩ := h; rfl) | (obtain ⟨_, _, _, _, _, _, _, _, _, _, _, _, _, _, _, _, _, rfl, _⟩ := h; rfl) | (obtain ⟨_, _, _, _, _, _, _, _, _, _, _, _, _, _, _, _, _, _, rfl, _⟩ := h; rfl) | (obtain ⟨_, _, _, _, _, _, _, _, _, _, _, _, _, _, _, _, _, _, _, rfl, _⟩ := h; rfl) | (obtain ⟨_, _, _, _, _, _, _, _, _, _, _, _, _, _, _, _, _, _, _, _, rfl, _⟩ := h; rfl) | (obtain ⟨_, _, _, _, _, _, _, _, _, _, _, _, _, _, _, _, _, _, _, _, _, rfl, _⟩ := h; rfl) | (obtain ⟨_, _, _, _, _, _, _, _, _, _, _, _, _, _, _, _, _, _, _, _, _, _, rfl, _⟩ := h; rfl) | (obtain ⟨_, _, _, _, _, _, _, _, _, _, _, _, _, _, _, _, _, _, _, _, _, _, _, rfl, _⟩ := h; rfl)) (fun cdv A outer s H vs Q E hr tk pz h => ?_)
  have hu := hr.units
  have hrH := L2H.roomH_of hr
  obtain ⟨b, q, n, rfl, B, n0, n1, k⟩ := h
  refine ⟨_, (pss_cons (ps_set (i := 2) sc__law_lanes.nd rfl (Or.inl rfl) (pe_lst pa_nil))
      (pss_cons (ps_if (pt_cutT (PW.pt (pw_or (pt_cmpA op_lt (pv 1) pe_int (nomark _)) (pw_or1 (pt_cmpA (o_eq hu) (pe_callA G__law_draw (Room.mono hr (by decide)) T.n__law_draw tk (pa_cons (pv 0) (pa_cons pe_int pa_nil))) pe_int (nomark _)))))) (pss_one (ps_ret (pv 2))) pss_nil)
      (pss_cons (ps_set (i := 3) sc__law_lanes.nd rfl (Or.inr rfl) (pe_callA G__law_draw (Room.mono hr (by decide)) T.n__law_draw tk (pa_cons (pv 0) (pa_cons (pe_op op_sub (pv 1) pe_int) pa_nil))))
      (pss_cut (ps_if (pt_cmpA (o_eq hu) (pe_callA G__law_draw (Room.mono hr (by decide)) T.n__law_draw tk (pa_cons (pv 0) (pa_cons pe_int pa_nil))) pe_int (nomark _)) (pss_one (ps_set (i := 3) sc__law_lanes.nd rfl (Or.inr rfl) (pe_op op_mod (pe_callTy b_intA rfl T.b_int (by decide +kernel) (pa_cons (pv 3) pa_nil)) pe_int))) pss_nil)
      (pss_cons (ps_for pz rfl (pi_range1 rfl T.b_range (pa_cons pe_int pa_nil)) (pg_name (i := 4) sc__law_lanes.nd rfl (Or.inl rfl))
      (pss_cut (ps_if (pt_cutT (PW.pt (pw_and (pt_cmpA op_le (pe_op o_add (pv 3) pe_int) (pv 1) (nomark _)) (pw_and1 (PW.pt (pw_or (pt_cmpA (o_eq hu) (pv 4) pe_int (nomark _)) (pw_or1 (pt_cmpA op_gt (pe_callA G__law_draw (Room.mono hr (by decide)) T.n__law_draw tk (pa_cons (pv 0) (pa_cons pe_int pa_nil))) pe_int (nomark _))))))))) (pss_cons (ps_set (i := 5) sc__law_lanes.nd rfl (Or.inl rfl) (pe_ix ix_seq (pe_lst (pa_cons (pe_lst (pa_cons pe_int (pa_cons pe_int (pa_cons pe_int (pa_cons pe_int (pa_cons pe_int pa_nil)))))) (pa_cons (pe_lst (pa_cons pe_int (pa_cons pe_int (pa_cons pe_int (pa_cons pe_int (pa_cons pe_int pa_nil)))))) pa_nil))) (pe_callA G__law_draw (Room.mono hr (by decide)) T.n__law_draw tk (pa_cons (pv 0) (pa_cons pe_int pa_nil))) (fun _ _ => rfl)))
      (pss_one (ps_expr (pe_bm PySem.F.plainAttrs_list PySem.F.slot_list_append PySem.F.type_list_append mt_append (pv 2) (pa_cons (pe_lc (own := [("_law_node", 6)]) (g := (gName 6)) (tt := tYes) rfl sc__law_lanes.nd (pi_list (pv 5)) (blkOk_by (own := [("_law_node", 6)]) (N := ["_law_bag_here", "_law_size_here", "_law_lanes_here", "_law_start", "_law_turn", "_law_lane", "_law_node"]) (sc := defScope s__law_lanes) (by decide +kernel)) (fun _ _ _ _ _ => (pg_name (i := 6) sc__law_lanes.nd rfl (Or.inl rfl))) (fun _ _ _ _ _ => pts_nil) (fun _ _ _ _ _ => (pe_op o_add (pv 3) (pv 6)))) pa_nil))))) pss_nil)
      (pss_one (ps_set (i := 3) sc__law_lanes.nd rfl (Or.inr rfl) (pe_op o_add (pe_op o_add (pv 3) pe_int) (pe_callA G__law_draw (Room.mono hr (by decide)) T.n__law_draw tk (pa_cons (pv 0) (pa_cons pe_int pa_nil))))))))
      (pss_one (ps_ret (pv 2)))))))), ?_⟩
  show (_ : Ends → L2.St → Hp → Prop) _ [some _, some _, none, none, none, none, none] _
  try dsimp only [L2H.cxH, cxOf]
  have hlb := B.liveb
  walk_at "w"
  intro p hp
  have kp := Kp.refl.new (ms := [b]) (o := .lst []) hp
  have B1 := B.new (o := .lst []) hp
  have pb := B.b hp
  have pq := B.q hp
  have I1 : lanO n H (upd H p (.lst [])) p [] (fun _ => []) := ⟨upd_same, hp, fun z hz => by cases hz⟩
  generalize upd H p (.lst []) = H1 at kp B1 I1 ⊢
  walk_at "w"
  refine s_cutTG (fun b1 H' => Box H' b q ∧ Kp [b] H1 H' ∧ (b1 = false → 4 ≤ n)) ?_ ?_
  · walk_at "w"
    refine w_ite (fun c => ?_) (fun c => ?_)
    · walk_at "w"
      exact ⟨B1, Kp.refl, fun z => by cases z⟩
    · walk_at "w"
      refine ⟨b, q, _, rfl, B1, by omega, by omega, fun x H2 x0 x1 B2 k2 => ?_⟩
      walk_at "w"
      exact ⟨B2, k2, fun _ => by omega⟩
  rintro b1 H2 ⟨B2, k2, h4⟩
  have I2 := I1.kp k2 hlb
  have k02 := kp.trans k2
  clear I1 B1 kp k2
  cases b1 with
  | true =>
    walk_at "w"
    exact k p [] _ H2 I2 (by simp) B2 k02
  | false =>
  have h4 := h4 rfl
  walk_at "w"
  refine ⟨b, q, _, rfl, B2, by omega, by omega, fun st H3 st0 st1 B3 k3 => ?_⟩
  have I3 := I2.kp k3 hlb
  have k03 := k02.trans k3
  clear I2 B2 k02 k3
  walk_at "w"
  refine s_cut (fun σ' H' => Box H' b q ∧ Kp [b] H3 H' ∧ ∃ st : Int, 0 ≤ st ∧ st ≤ 60 ∧ σ' = [some (.ref b), some (.int n), some (.ref p), some (.int st), none, none, none]) ?_ ?_
  · walk_at "w"
    refine ⟨b, q, _, rfl, B3, by omega, by omega, fun x H4 x0 x1 B4 k4 => ?_⟩
    walk_at "w"
    refine w_ite (fun c => ?_) (fun c => ?_)
    · walk_at "w"
      exact ⟨B4, k4, st % 5, by omega, by omega, rfl⟩
    · walk_at "w"
      exact ⟨B4, k4, st, by omega, by omega, rfl⟩
  rintro σ' H4 ⟨B4, k4, st', s0', s1', rfl⟩
  have I4 := I3.kp k4 hlb
  have k04 := k03.trans k4
  clear I3 B3 k03 k4
  walk_at "w"
  refine w_rng1 (n := 3) (by omega) (by omega) (fun i σ' H' => ∃ (st : Int) (qs : List Addr) (ρ : Addr → List Int) (z4 z5 z6 : Option V), 0 ≤ st ∧ st ≤ 60 + 7 * (i : Int) ∧ σ' = [some (.ref b), some (.int n), some (.ref p), some (.int st), z4, z5, z6] ∧ lanO n H H' p qs ρ ∧ qs.length ≤ i ∧ Box H' b q ∧ Kp [b] H H') ⟨st', [], _, _, _, _, by omega, by omega, rfl, I4, by simp, B4, k04⟩ ?_ ?_
  · clear I4 B4 k04
    rintro i σ' H5 hi ⟨st, qs, ρ, z4, z5, z6, st0, st1, rfl, I5, hl5, B5, k5⟩
    walk_at "w"
    refine s_cut (fun σ' H' => ∃ (qs : List Addr) (ρ : Addr → List Int) (z5 z6 : Option V), σ' = [some (.ref b), some (.int n), some (.ref p), some (.int st), some (.int (i : Int)), z5, z6] ∧ lanO n H H' p qs ρ ∧ qs.length ≤ i + 1 ∧ Box H' b q ∧ Kp [b] H H') ?_ ?_
    · walk_at "w"
      refine s_cutTG (fun b1 H' => Box H' b q ∧ Kp [b] H5 H' ∧ (b1 = true → st + 4 ≤ n)) ?_ ?_
      · walk_at "w"
        refine w_ite (fun c0 => ?_) (fun c => ?_)
        · walk_at "w"
          refine w_ite (fun c => ?_) (fun c => ?_)
          · walk_at "w"
            exact ⟨B5, Kp.refl, fun _ => c0⟩
          · walk_at "w"
            refine ⟨b, q, _, rfl, B5, by omega, by omega, fun x H6 x0 x1 B6 k6 => ?_⟩
            walk_at "w"
            exact ⟨B6, k6, fun _ => by omega⟩
        · walk_at "w"
          exact ⟨B5, Kp.refl, fun z => by cases z⟩
      rintro b1 H6 ⟨B6, k6, h4⟩
      have I6 := I5.kp k6 hlb
      have k06 := k5.trans k6
      clear I5 B5 k5 k6
      cases b1 with
      | false =>
        walk_at "w"
        exact ⟨qs, ρ, _, _, rfl, I6, by omega, B6, k06⟩
      | true =>
        have h4 := h4 rfl
        walk_at "w"
        intro t0 ht0
        walk_at "w"
        intro t1 ht1
        walk_at "w"
        intro t2 ht2
        have kk := ((Kp.refl (ms := []) (H := H6)).new (o := .lst (([2, 3, 2, 1, 4] : List Int).map V.int)) ht0).new (o := .lst (([3, 2, 3, 4, 1] : List Int).map V.int)) ht1 |>.new (o := .lst [.ref t0, .ref t1]) ht2
        have e0 : upd (upd (upd H6 t0 (.lst (([2, 3, 2, 1, 4] : List Int).map V.int))) t1 (.lst (([3, 2, 3, 4, 1] : List Int).map V.int))) t2 (.lst [.ref t0, .ref t1]) t0 = some (.lst (([2, 3, 2, 1, 4] : List Int).map V.int)) := upd_new ht2 (upd_new ht1 upd_same)
        have e1 : upd (upd (upd H6 t0 (.lst (([2, 3, 2, 1, 4] : List Int).map V.int))) t1 (.lst (([3, 2, 3, 4, 1] : List Int).map V.int))) t2 (.lst [.ref t0, .ref t1]) t1 = some (.lst (([3, 2, 3, 4, 1] : List Int).map V.int)) := upd_new ht2 upd_same
        have e2 : upd (upd (upd H6 t0 (.lst (([2, 3, 2, 1, 4] : List Int).map V.int))) t1 (.lst (([3, 2, 3, 4, 1] : List Int).map V.int))) t2 (.lst [.ref t0, .ref t1]) t2 = some (.lst [.ref t0, .ref t1]) := upd_same
        show (_ : Prop)
        have d0 : (HO.lst [.int 2, .int 3, .int 2, .int 1, .int 4]) = .lst (([2, 3, 2, 1, 4] : List Int).map V.int) := rfl
        have d1 : (HO.lst [.int 3, .int 2, .int 3, .int 4, .int 1]) = .lst (([3, 2, 3, 4, 1] : List Int).map V.int) := rfl
        rw [d0, d1]
        generalize upd (upd (upd H6 t0 (.lst (([2, 3, 2, 1, 4] : List Int).map V.int))) t1 (.lst (([3, 2, 3, 4, 1] : List Int).map V.int))) t2 (.lst [.ref t0, .ref t1]) = H7 at kk e0 e1 e2 ⊢
        have I7 := I6.kp0 kk
        have B7 := B6.kp kk
        have k07 := k06.trans0 kk
        have b0 := B6.b ht0
        have b1' := B6.b (upd_nil ht1)
        have b2' := B6.b (upd_nil (upd_nil ht2))
        clear I6 B6 k06 kk ht0 ht1 ht2
        walk_at "w"
        refine ⟨b, q, _, rfl, B7, by omega, by omega, fun x H8 x0 x1 B8 k8 => ?_⟩
        have I8 := I7.kp k8 hlb
        have k08 := k07.trans k8
        have f0 := k8 t0 _ e0 (by simpa using b0)
        have f1 := k8 t1 _ e1 (by simpa using b1')
        have f2 := k8 t2 _ e2 (by simpa using b2')
        have pick : ∃ (t : Addr) (us : List Int), ([.ref t0, .ref t1] : List V)[x.toNat]? = some (.ref t) ∧ H8 t = some (.lst (us.map V.int)) ∧ us.length = 5 ∧ ∀ u ∈ us, 1 ≤ u ∧ u ≤ 4 := by
          obtain rfl | rfl : x = 0 ∨ x = 1 := by omega
          · exact ⟨t0, _, rfl, f0, rfl, by decide⟩
          · exact ⟨t1, _, rfl, f1, rfl, by decide⟩
        clear I7 B7 k07 k8 e0 e1 e2 f0 f1
        obtain ⟨t, us, hx, ht, hul, hus⟩ := pick
        refine w_ixL f2 x0 hx ?_
        walk_at "w"
        have hp8 := I8.1
        walk_at "w"
        refine w_lcM (f := V.int) (f' := V.int) (fun u => some (st + u)) ht (by rw [sizeLine_eq]; omega) ?_ ?_
        · intro D j u acc H' hD hu hk hA hlen
          walk_at "w"
          refine ⟨rfl, ?_⟩
          walk_at "w"
          exact w_keep hk hA hlen hD rfl
        · intro D H9 hD k9 hA
          rw [fm_some] at hA
          have I9 := I8.kp0 k9
          have hp9 := I9.1
          have B9 := B8.kp k9
          have k09 := k08.trans0 k9
          have hD0 : H D = none := kp_free B8 k08 hD
          walk_at "w"
          rw [map_app1]
          refine ⟨qs ++ [D], _, _, _, rfl, I9.app (xs := us.map fun u => st + u) hA (fun z => ?_) (ne_n' hD hp8) hD0 (by simp; omega) (fun y hy => ?_), by simp; omega, B9.mut pb pq, k09.own hp⟩
          · rw [(I8.2.2 D z).2.2.1] at hD; cases hD
          · obtain ⟨u, hu, rfl⟩ := List.mem_map.mp hy
            have := hus u hu
            omega
    · rintro σ' H6 ⟨qs', ρ', z5', z6', rfl, I6, hl6, B6, k6⟩
      walk_at "w"
      refine ⟨b, q, _, rfl, B6, by omega, by omega, fun x H7 x0 x1 B7 k7 => ?_⟩
      walk_at "w"
      exact ⟨_, qs', ρ', _, _, _, by omega, by omega, rfl, I6.kp k7 hlb, hl6, B7, k6.trans k7⟩
  · rintro σ' H5 ⟨st, qs, ρ, z4, z5, z6, st0, st1, rfl, I5, hl5, B5, k5⟩
    walk_at "w"
    exact k p qs ρ H5 I5 hl5 B5 k5
/-- a lane is shortened -/
theorem lanO.pop {n : Int} {H0 H : Hp} {p : Addr} {qs : List Addr} {ρ : Addr → List Int} (h : lanO n H0 H p qs ρ) {q : Addr} (hq : q ∈ qs) : lanO n H0 (upd H q (.lst (((ρ q).drop 1).map V.int))) p qs (fun z => if z = q then (ρ q).drop 1 else ρ z) := by
  obtain ⟨q1, q2, q3, q4, q5⟩ := h.2.2 q hq
  refine ⟨upd_get (Ne.symm q2) h.1, h.2.1, fun z hz => ?_⟩
  obtain ⟨a1, a2, a3, a4, a5⟩ := h.2.2 z hz
  by_cases c : z = q
  · subst c
    dsimp only
    rw [if_pos rfl]
    exact ⟨a1, a2, upd_same, by rw [List.length_drop]; omega, fun x hx => a5 x (List.mem_of_mem_drop hx)⟩
  · dsimp only
    rw [if_neg c]
    exact ⟨a1, a2, upd_get c a3, a4, a5⟩
theorem lanO.base {n : Int} {b q : Addr} {H H3 H' : Hp} {p : Addr} {qs : List Addr} {ρ : Addr → List Int} (h : lanO n H3 H' p qs ρ) (B : Box H3 b q) (k : Kp [b] H H3) : lanO n H H' p qs ρ :=
  ⟨h.1, kp_free B k h.2.1, fun z hz => ⟨kp_free B k (h.2.2 z hz).1, (h.2.2 z hz).2⟩⟩
theorem lanO.mut {n : Int} {H0 H : Hp} {p y : Addr} {qs : List Addr} {ρ : Addr → List Int} {o : HO} (h : lanO n H0 H p qs ρ) (h1 : p ≠ y) (h2 : ∀ q ∈ qs, y ≠ q) : lanO n H0 (upd H y o) p qs ρ :=
  ⟨upd_get h1 h.1, h.2.1, fun z hz => ⟨(h.2.2 z hz).1, (h.2.2 z hz).2.1, upd_get (Ne.symm (h2 z hz)) (h.2.2 z hz).2.2.1, (h.2.2 z hz).2.2.2⟩⟩
def sp__law_nodes (a : AD) : Sp := fun vs H Q _ => ∃ (b q : Addr) (n : Int), vs = [.ref b, .int n] ∧ Box H b q ∧ 1 ≤ n ∧ n ≤ 60 ∧ ∀ (p : Addr) (us : List Int) (H' : Hp), H p = none → H' p = some (.lst (us.map V.int)) → us.length ≤ 36 → (∀ u ∈ us, 1 ≤ u ∧ u ≤ n) → Box H' b q → Kp [b] H H' → Q (.ref p) H'
theorem sc__law_nodes : FnScope ["_law_bag_here", "_law_size_here", "_law_nodes_here", "_law_turn", "_law_node", "_law_lanes_here", "_law_taken", "_law_lane", "_law_spare", "_law_start", "_law_step_here", "_law_more", "_law_open_lanes"] ["_law_bag_here", "_law_size_here"] (defScope s__law_nodes) := ⟨rfl, rfl, rfl, by decide +kernel, rfl, by decide +kernel, by decide +kernel⟩
theorem ok__law_nodes {P : Program} {w : World} {K : PySem.W.Frag} {mg : Str → Option Value} {base : Heap} {a : AD} (T : Txt P K mg a) (G__law_draw : FnA P w K mg base 2 a.f__law_draw ["_law_bag_here", "_law_many"] (sp__law_draw a)) (G__law_lanes : FnA P w K mg base 3 a.f__law_lanes ["_law_bag_here", "_law_size_here"] (sp__law_lanes a)) : FnA P w K mg base 4 a.f__law_nodes ["_law_bag_here", "_law_size_here"] (sp__law_nodes a) := by
  obtain ⟨fd, F, b⟩ := T.F__law_nodes
  refine FnA.of F sc__law_nodes b (fun vs H Q E h => by first | (obtain ⟨rfl, _⟩ := h; rfl) | (obtain ⟨_, rfl, _⟩ := h; rfl) | (obtain ⟨_, _, rfl, _⟩ := h; rfl) | (obtain ⟨_, _, _, rfl, _⟩ := h; rfl) | (obtain ⟨_, _, _, _, rfl, _⟩ := h; rfl) | (obtain ⟨_, _, _, _, _, rfl, _⟩ := h; rfl) | (obtain ⟨_, _, _, _, _, _, rfl, _⟩ := h; rfl) | (obtain ⟨_, _, _, _, _, _, _, rfl, _⟩ := h; rfl) | (obtain ⟨_, _, _, _, _, _, _, _, rfl, _⟩ := h; rfl) | (obtain ⟨_, _, _, _, _, _, _, _, _, rfl, _⟩ := h; rfl) | (obtain ⟨_, _, _, _, _, _, _, _, _, _, rfl, _⟩ := h; rfl) | (obtain ⟨_, _, _, _, _, _, _, _, _, _, _, rfl, _⟩ := h; rfl) | (obtain ⟨_, _, _, _, _, _, _, _, _, _, _, _, rfl, _⟩ := h; rfl) | (obtain ⟨_, _, _, _, _, _, _, _, _, _, _, _, _, rfl, _⟩ := h; rfl) | (obtain ⟨_, _, _, _, _, _, _, _, _, _, _, _, _, _, rfl, _⟩ := h; rfl) | (obtain ⟨_, _, _, _, _, _, _, _, _, _, _, _, _, _, _, rfl, _⟩ := h; rfl) | (obtain ⟨_, _, _, _, _, _, _, _, _, _, _, _, _, _, _, _, rfl, _⟩ := h; rfl) | (obtain ⟨_, _, _, _, _, _, _, _, _, _, _, _, _, _, _, _, _, rfl, _⟩ := h; rfl) | (obtain ⟨_, _, _, _, _, _, _, _, _, _, _, _, _, _, _, _, _, _, rfl, _⟩ := h; rfl) | (obtain ⟨_, _, _, _, _, _, _, _, _, _, _, _, _, _, _, _, _, _, _, rfl, _⟩ := h; rfl) | (obtain ⟨_, _, _, _, _, _, _, _, _, _, _, _, _, _, _, _, _, _, _, _, rfl, _⟩ := h; rfl) | (obtain ⟨_, _, _, _, _, _, _, _, _, _, _, _, _, _, _, _, _, _, _, _, _, rfl, _⟩ := h; rfl) | (obtain ⟨_, _, _, _, _, _, _, _, _, _, _, _, _, _, _, _, _, _, _, _, _, _, rfl, _⟩ := h; rfl) | (obtain ⟨_, _, _, _, _, _, _, _, _, _, _, _, _, _, _, _, _, _, _, _, _, _, _, rfl, _⟩ := h; rfl)) (fun cdv A outer s H vs Q E hr tk pz h => ?_)
  have hu := hr.units
  have hrH := L2H.roomH_of hr
  obtain ⟨b, q, n, rfl, B, n0, n1, k⟩ := h
  refine ⟨_, (pss_cons (ps_set (i := 2) sc__law_nodes.nd rfl (Or.inl rfl) (pe_lst pa_nil))
      (pss_cons (ps_for pz rfl (pi_range1 rfl T.b_range (pa_cons (pe_callA G__law_draw (Room.mono hr (by decide)) T.n__law_draw tk (pa_cons (pv 0) (pa_cons pe_int pa_nil))) pa_nil)) (pg_name (i := 3) sc__law_nodes.nd rfl (Or.inl rfl))
      (pss_cons (ps_set (i := 4) sc__law_nodes.nd rfl (Or.inl rfl) (pe_op o_add pe_int (pe_callA G__law_draw (Room.mono hr (by decide)) T.n__law_draw tk (pa_cons (pv 0) (pa_cons (pv 1) pa_nil)))))
      (pss_one (ps_expr (pe_bm PySem.F.plainAttrs_list PySem.F.slot_list_extend PySem.F.type_list_extend mt_extend (pv 2) (pa_cons (pe_lst (pa_cons (pv 4) (pa_cons (pv 4) pa_nil))) pa_nil))))))
      (pss_cons (ps_set (i := 5) sc__law_nodes.nd rfl (Or.inl rfl) (pe_callA G__law_lanes (Room.mono hr (by decide)) T.n__law_lanes tk (pa_cons (pv 0) (pa_cons (pv 1) pa_nil))))
      (pss_cons (ps_set (i := 6) sc__law_nodes.nd rfl (Or.inr rfl) (pe_lst pa_nil))
      (pss_cons (ps_for pz rfl (pi_list (pv 5)) (pg_name (i := 7) sc__law_nodes.nd rfl (Or.inl rfl))
      (pss_one (ps_expr (pe_bm PySem.F.plainAttrs_list PySem.F.slot_list_extend PySem.F.type_list_extend mt_extend (pv 6) (pa_cons (pv 7) pa_nil)))))
      (pss_cons (ps_set (i := 8) sc__law_nodes.nd rfl (Or.inr rfl) (pe_lc (own := [("_law_node", 4)]) (g := (gName 4)) rfl sc__law_nodes.nd (pi_range2 rfl T.b_range (pa_cons pe_int (pa_cons (pe_op o_add (pv 1) pe_int) pa_nil))) (blkOk_by (own := [("_law_node", 4)]) (N := ["_law_bag_here", "_law_size_here", "_law_nodes_here", "_law_turn", "_law_node", "_law_lanes_here", "_law_taken", "_law_lane", "_law_spare", "_law_start", "_law_step_here", "_law_more", "_law_open_lanes"]) (sc := defScope s__law_nodes) (by decide +kernel)) (fun _ _ _ _ _ => (pg_name (i := 4) sc__law_nodes.nd rfl (Or.inl rfl))) (fun _ _ _ _ _ => (pts_one (pt_cmpA (show OpR _ _ (rIn K true) from op_notIn_seq) (pv 4) (pv 6) (by rfl)))) (fun _ _ _ _ _ => (pv 4))))
      (pss_cons (ps_set (i := 9) sc__law_nodes.nd rfl (Or.inr rfl) (pe_callA G__law_draw (Room.mono hr (by decide)) T.n__law_draw tk (pa_cons (pv 0) (pa_cons (pv 1) pa_nil))))
      (pss_cut (ps_if (pt_cutT (PW.pt (pw_or (pt_cmpA (o_eq hu) (pv 8) (pe_lst pa_nil) (nomark _)) (pw_or1 (pt_cmpA (o_eq hu) (pe_callA G__law_draw (Room.mono hr (by decide)) T.n__law_draw tk (pa_cons (pv 0) (pa_cons pe_int pa_nil))) pe_int (nomark _)))))) (pss_one (ps_set (i := 8) sc__law_nodes.nd rfl (Or.inr rfl) (pe_lc (own := [("_law_step_here", 10)]) (g := (gName 10)) (tt := tYes) rfl sc__law_nodes.nd (pi_range1 rfl T.b_range (pa_cons pe_int pa_nil)) (blkOk_by (own := [("_law_step_here", 10)]) (N := ["_law_bag_here", "_law_size_here", "_law_nodes_here", "_law_turn", "_law_node", "_law_lanes_here", "_law_taken", "_law_lane", "_law_spare", "_law_start", "_law_step_here", "_law_more", "_law_open_lanes"]) (sc := defScope s__law_nodes) (by decide +kernel)) (fun _ _ _ _ _ => (pg_name (i := 10) sc__law_nodes.nd rfl (Or.inl rfl))) (fun _ _ _ _ _ => pts_nil) (fun _ _ _ _ _ => (pe_op o_add pe_int (pe_op op_mod (pe_callTy b_intA rfl T.b_int (by decide +kernel) (pa_cons (pe_op o_add (pv 9) (pv 10)) pa_nil)) (pv 1))))))) pss_nil)
      (pss_cons (ps_setLc (i := 11) (own := [("_law_turn", 3)]) (g := (gName 3)) (tt := tYes) rfl sc__law_nodes.nd rfl rfl (sw_true rfl rfl rfl (by decide +kernel)) (pi_range1 rfl T.b_range (pa_cons (pe_callA G__law_draw (Room.mono hr (by decide)) T.n__law_draw tk (pa_cons (pv 0) (pa_cons pe_int pa_nil))) pa_nil)) (blkOk_by (own := [("_law_turn", 3)]) (N := ["_law_bag_here", "_law_size_here", "_law_nodes_here", "_law_turn", "_law_node", "_law_lanes_here", "_law_taken", "_law_lane", "_law_spare", "_law_start", "_law_step_here", "_law_more", "_law_open_lanes"]) (sc := defScope s__law_nodes) (by decide +kernel)) (fun _ _ _ _ _ => (pg_name (i := 3) sc__law_nodes.nd rfl (Or.inl rfl))) (fun _ _ _ _ _ => pts_nil) (fun _ _ _ _ _ => (pe_ix (show IxR _ (rIx K) from ix_seq) (pv 8) (pe_callA G__law_draw (Room.mono hr (by decide)) T.n__law_draw takes0 (pa_cons (pv 0) (pa_cons (pe_callB ((show CallR _ _ (rLen K) from b_len)) rfl T.b_len (by decide +kernel) (pa_cons (pv 8) pa_nil)) pa_nil))) (fun _ _ => rfl))))
      (pss_cut (ps_if (pt_cmpA (o_ne hu) (pv 11) (pe_lst pa_nil) (nomark _)) (pss_one (ps_expr (pe_bm PySem.F.plainAttrs_list PySem.F.slot_list_append PySem.F.type_list_append mt_append (pv 5) (pa_cons (pv 11) pa_nil)))) pss_nil)
      (pss_cons (ps_for pz rfl (pi_range1 rfl T.b_range (pa_cons pe_int pa_nil)) (pg_name (i := 3) sc__law_nodes.nd rfl (Or.inl rfl))
      (pss_cons (ps_setLc (i := 12) (own := [("_law_lane", 7)]) (g := (gName 7)) rfl sc__law_nodes.nd rfl rfl (sw_true rfl rfl rfl (by decide +kernel)) (pi_list (pv 5)) (blkOk_by (own := [("_law_lane", 7)]) (N := ["_law_bag_here", "_law_size_here", "_law_nodes_here", "_law_turn", "_law_node", "_law_lanes_here", "_law_taken", "_law_lane", "_law_spare", "_law_start", "_law_step_here", "_law_more", "_law_open_lanes"]) (sc := defScope s__law_nodes) (by decide +kernel)) (fun _ _ _ _ _ => (pg_name (i := 7) sc__law_nodes.nd rfl (Or.inl rfl))) (fun _ _ _ _ _ => (pts_one (pt_cmpA (show OpR _ _ (aNe K) from (o_ne hu)) (pv 7) (pe_lst pa_nil) (nomark _)))) (fun _ _ _ _ _ => (pv 7)))
      (pss_one (ps_if (pt_cmpA (o_ne hu) (pv 12) (pe_lst pa_nil) (nomark _)) (pss_cons (ps_set (i := 7) sc__law_nodes.nd rfl (Or.inl rfl) (pe_ix ix_seq (pv 12) (pe_callA G__law_draw (Room.mono hr (by decide)) T.n__law_draw tk (pa_cons (pv 0) (pa_cons (pe_callB (b_len) rfl T.b_len (by decide +kernel) (pa_cons (pv 12) pa_nil)) pa_nil))) (fun _ _ => rfl)))
      (pss_one (ps_expr (pe_bm PySem.F.plainAttrs_list PySem.F.slot_list_append PySem.F.type_list_append mt_append (pv 2) (pa_cons (pe_bm PySem.F.plainAttrs_list PySem.F.slot_list_pop PySem.F.type_list_pop mt_popAt (pv 7) (pa_cons pe_int pa_nil)) pa_nil))))) pss_nil))))
      (pss_one (ps_ret (pv 2)))))))))))))), ?_⟩
  show (_ : Ends → L2.St → Hp → Prop) _ [some _, some _, none, none, none, none, none, none, none, none, none, none, none] _
  try dsimp only [L2H.cxH, cxOf]
  have hlb := B.liveb
  walk_at "w"
  intro p hp
  have kp := Kp.refl.new (ms := [b]) (o := .lst []) hp
  have B1 := B.new (o := .lst []) hp
  have pb := B.b hp
  have pq := B.q hp
  have hp1 : upd H p (.lst []) p = some (.lst (([] : List Int).map V.int)) := upd_same
  generalize upd H p (.lst []) = H1 at kp B1 hp1 ⊢
  walk_at "w"
  refine ⟨b, q, _, rfl, B1, by omega, by omega, fun m H2 m0 m1 B2 k2 => ?_⟩
  have hp2 := k2 p _ hp1 (by simpa using pb)
  have k02 := kp.trans k2
  clear kp B1 hp1 k2
  walk_at "w"
  refine w_rng1 (n := m) (by omega) (by omega) (fun i σ' H' => ∃ (us : List Int) (z3 z4 : Option V), σ' = [some (.ref b), some (.int n), some (.ref p), z3, z4, none, none, none, none, none, none, none, none] ∧ H' p = some (.lst (us.map V.int)) ∧ us.length ≤ 2 * i ∧ (∀ u ∈ us, 1 ≤ u ∧ u ≤ n) ∧ Box H' b q ∧ Kp [b] H H') ⟨[], _, _, rfl, hp2, by simp, by simp, B2, k02⟩ ?_ ?_
  · clear hp2 B2 k02
    rintro i σ' H3 hi ⟨us, z3, z4, rfl, hp3, hul, hus, B3, k3⟩
    walk_at "w"
    refine ⟨b, q, _, rfl, B3, by omega, by omega, fun x H4 x0 x1 B4 k4 => ?_⟩
    have hp4 := k4 p _ hp3 (by simpa using pb)
    have k04 := k3.trans k4
    walk_at "w"
    intro t ht
    have kt := Kp.refl.new (ms := []) (o := .lst [.int (1 + x), .int (1 + x)]) ht
    have hp5 := kt.at0 hp4
    have ht5 : upd H4 t (.lst [.int (1 + x), .int (1 + x)]) t = some (.lst (([1 + x, 1 + x] : List Int).map V.int)) := upd_same
    have B5 := B4.kp kt
    have k05 := k04.trans0 kt
    generalize upd H4 t (.lst [.int (1 + x), .int (1 + x)]) = H5 at hp5 ht5 B5 k05 ⊢
    walk_at "w"
    refine ⟨us ++ [1 + x, 1 + x], _, _, rfl, upd_same, by simp; omega, fun u hu => ?_, B5.mut pb pq, k05.own hp⟩
    rcases List.mem_append.mp hu with c | c
    · exact hus u c
    · simp at c; omega
  clear hp2 B2 k02
  rintro σ' H3 ⟨us, z3, z4, rfl, hp3, hul, hus, B3, k3⟩
  have hul : us.length ≤ 6 := by omega
  clear m0 m1
  walk_at "w"
  refine ⟨b, q, n, rfl, B3, by omega, n1, fun pl qs ρ H4 I4 hql B4 k4 => ?_⟩
  have hpl : p ≠ pl := ne_n I4.2.1 hp3
  have hp4 := k4 p _ hp3 (by simpa using pb)
  have hpq : ∀ z ∈ qs, p ≠ z := fun z hz => ne_n (I4.2.2 z hz).1 hp3
  have k04 := k3.trans k4
  replace I4 := I4.base B3 k3
  clear k4 B3
  walk_at "w"
  intro tk htk
  have ktk := Kp.refl.new (ms := []) (o := .lst []) htk
  have htk5 : upd H4 tk (.lst []) tk = some (.lst (([] : List Int).map V.int)) := upd_same
  generalize upd H4 tk (.lst []) = H5 at ktk htk5 ⊢
  have hpl5 := ktk.at0 I4.1
  walk_at "w"
  refine w_forM (us := qs) (f := V.ref) (p := pl) hpl5 (fun i σ' H' => ∃ (ts : List Int) (z3 z4 z7 : Option V), σ' = [some (.ref b), some (.int n), some (.ref p), z3, z4, some (.ref pl), some (.ref tk), z7, none, none, none, none, none] ∧ H' tk = some (.lst (ts.map V.int)) ∧ ts.length ≤ 20 * i ∧ Kp [] H4 H') ⟨[], z3, z4, _, rfl, htk5, by simp, ktk⟩ (fun i σ' H' _ h => by obtain ⟨_, _, _, _, _, _, _, h⟩ := h; exact h.at0 I4.1) ?_ ?_
  · clear htk5 hpl5 ktk
    rintro i u σ' H6 hu ⟨ts, z3, z4, z7, rfl, h6, hl6, k6⟩
    have hui := List.mem_of_getElem? hu
    have hil : i < qs.length := (List.getElem?_eq_some_iff.mp hu).1
    obtain ⟨_, _, hu4, hul4, _⟩ := I4.2.2 u hui
    have hu6 := k6.at0 hu4
    walk_at "w"
    exact ⟨ts ++ ρ u, _, _, _, rfl, upd_same, by rw [List.length_append]; omega, k6.own htk⟩
  clear htk5 hpl5 ktk z3 z4
  rintro σ' H6 ⟨ts, z3, z4, z7, rfl, h6, hl6, k6⟩
  have I6 := I4.kp0 k6
  have B6 := B4.kp k6
  have k06 := k04.trans0 k6
  have hp6 := k6.at0 hp4
  clear I4 B4 k04 hp4 k6 htk
  walk_at "w"
  refine w_lcR2 (f' := V.int) (fun i : Nat => if (1 + (i : Int)) ∈ ts then none else some (1 + (i : Int))) (lo := 1) (n := n + 1) (by omega) (by omega) (by omega) (by omega) (by rw [sizeLine_eq]; omega) ?_ ?_
  · intro D i acc H' hD hi hk hA hlen
    have h7 := hk.at0 h6
    walk_at "w"
    refine ⟨rfl, ?_⟩
    walk_at "w"
    refine w_iteN (fun c => ?_) (fun c => ?_)
    · walk_at "w"
      exact w_keep hk hA hlen hD (by rw [if_neg c])
    · walk_at "w"
      exact w_drop hk hA (by rw [if_pos c])
  intro sp H7 hsp k7 hsp7
  have sps : ∀ u ∈ (List.range (n + 1 - 1).toNat).filterMap (fun i : Nat => if (1 + (i : Int)) ∈ ts then none else some (1 + (i : Int))), 1 ≤ u ∧ u ≤ n := by
    intro u hu
    obtain ⟨i, hi, e⟩ := List.mem_filterMap.mp hu
    rw [List.mem_range] at hi
    split at e
    · cases e
    · cases e; omega
  have spl := fm_len (fun i : Nat => if (1 + (i : Int)) ∈ ts then none else some (1 + (i : Int))) (List.range (n + 1 - 1).toNat)
  rw [List.length_range] at spl
  have spl : ((List.range (n + 1 - 1).toNat).filterMap (fun i : Nat => if (1 + (i : Int)) ∈ ts then none else some (1 + (i : Int)))).length ≤ 60 := by omega
  generalize (List.range (n + 1 - 1).toNat).filterMap (fun i : Nat => if (1 + (i : Int)) ∈ ts then none else some (1 + (i : Int))) = ss at hsp7 sps spl
  have I7 := I6.kp0 k7
  have B7 := B6.kp k7
  have k07 := k06.trans0 k7
  have hp7 := k7.at0 hp6
  have spb := B6.b hsp
  clear I6 B6 k06 hp6 k7 h6 hl6 hsp
  walk_at "w"
  refine ⟨b, q, _, rfl, B7, by omega, by omega, fun st H8 st0 st1 B8 k8 => ?_⟩
  have I8 := I7.kp k8 hlb
  have k08 := k07.trans k8
  have hp8 := k8 p _ hp7 (by simpa using pb)
  have hsp8 := k8 sp _ hsp7 (by simpa using spb)
  clear I7 B7 k07 hp7 hsp7 k8
  walk_at "w"
  refine s_cut (fun σ' H' => ∃ (sp : Addr) (ss : List Int) (z10 : Option V), σ' = [some (.ref b), some (.int n), some (.ref p), z3, z4, some (.ref pl), some (.ref tk), z7, some (.ref sp), some (.int st), z10, none, none] ∧ sp ≠ b ∧ H' sp = some (.lst (ss.map V.int)) ∧ ss ≠ [] ∧ (∀ u ∈ ss, 1 ≤ u ∧ u ≤ n) ∧ ss.length ≤ 60 ∧ Box H' b q ∧ Kp [b] H8 H') ?_ ?_
  · walk_at "w"
    refine s_cutTG (fun b1 H' => Box H' b q ∧ Kp [b] H8 H' ∧ (b1 = false → ss ≠ [])) ?_ ?_
    · walk_at "w"
      intro t ht
      have kt := Kp.refl.new (ms := []) (o := .lst []) ht
      refine w_eqLI0 (kt.at0 hsp8) upd_same ?_
      have B9 := B8.kp kt
      generalize upd H8 t (.lst []) = H9 at kt B9 ⊢
      have kt' := kt.mono (ns := [b]) (by simp)
      walk_at "w"
      refine w_ite (fun c => ?_) (fun c => ?_)
      · walk_at "w"
        exact ⟨B9, kt', fun z => by cases z⟩
      · walk_at "w"
        refine ⟨b, q, _, rfl, B9, by omega, by omega, fun x H10 x0 x1 B10 k10 => ?_⟩
        walk_at "w"
        exact ⟨B10, kt'.trans k10, fun _ => c⟩
    rintro b1 H9 ⟨B9, k9, hne⟩
    have hsp9 := k9 sp _ hsp8 (by simpa using spb)
    cases b1 with
    | false =>
      walk_at "w"
      exact ⟨sp, ss, _, rfl, spb, hsp9, hne rfl, sps, spl, B9, k9⟩
    | true =>
      walk_at "w"
      refine w_lcR1 (f' := V.int) (fun i : Nat => some (1 + (st + (i : Int)) % n)) (n := 4) (by omega) (by omega) (by rw [sizeLine_eq]; omega) ?_ ?_
      · intro D i acc H' hD hi hk hA hlen
        walk_at "w"
        refine ⟨rfl, ?_⟩
        walk_at "w"
        exact w_keep hk hA hlen hD rfl
      · intro D H10 hD k10 hA
        rw [fm_some] at hA
        walk_at "w"
        refine ⟨D, _, _, rfl, B9.b hD, hA, by simp, fun u hu => ?_, by simp, B9.kp k10, k9.trans0 k10⟩
        obtain ⟨i, _, rfl⟩ := List.mem_map.mp hu
        have := Int.emod_nonneg (st + (i : Int)) (show n ≠ 0 by omega)
        have := Int.emod_lt_of_pos (st + (i : Int)) (show 0 < n by omega)
        omega
  clear hsp8 sps spl ss spb sp
  rintro σ' H9 ⟨sp, ss, z10, rfl, spb, hsp9, hne, sps, spl, B9, k9⟩
  have I9 := I8.kp k9 hlb
  have k09 := k08.trans k9
  have hp9 := k9 p _ hp8 (by simpa using pb)
  clear I8 B8 k08 hp8 k9
  have hsl : 0 < ss.length := List.length_pos_iff.mpr hne
  walk_at "w"
  refine ⟨b, q, _, rfl, B9, by omega, by omega, fun m H10 m0 m1 B10 k10 => ?_⟩
  have I10 := I9.kp k10 hlb
  have k010 := k09.trans k10
  have hp10 := k10 p _ hp9 (by simpa using pb)
  have hsp10 := k10 sp _ hsp9 (by simpa using spb)
  clear I9 B9 k09 hp9 hsp9 k10
  walk_at "w"
  refine w_lcRG1 (n := m) [b] (fun D i acc H' => Box H' b q ∧ ∃ ws : List Int, acc = ws.map V.int ∧ ∀ u ∈ ws, 1 ≤ u ∧ u ≤ n) (by omega) (by omega) (fun D hD => ⟨B10.new hD, [], rfl, by simp⟩) ?_ ?_
  · rintro D i acc H' hD hi hlen' hk hA ⟨B11, ws, rfl, hws⟩
    have hsp11 := hk sp _ hsp10 (by simpa using spb)
    walk_at "w"
    refine ⟨rfl, ?_⟩
    walk_at "w"
    refine ⟨b, q, _, rfl, B11, by omega, by omega, fun x H12 x0 x1 B12 k12 => ?_⟩
    have hsp12 := k12 sp _ hsp11 (by simpa using spb)
    have hDb : D ≠ b := B10.b hD
    have hDq : D ≠ q := B10.q hD
    walk_at "w"
    refine w_keepG (hk.trans k12) (k12 D _ hA (by simpa using hDb)) hlen' (by rw [sizeLine_eq]; omega) hD ⟨B12.mut hDb hDq, ws ++ [ss.getD x.toNat default], by rw [List.map_append]; rfl, fun u hu => ?_⟩
    rcases List.mem_append.mp hu with c | c
    · exact hws u c
    · rw [List.mem_singleton.mp c]
      refine sps _ ?_
      rw [List.getD_eq_getElem?_getD, List.getElem?_eq_getElem (by omega)]
      exact List.getElem_mem _
  rintro mo acc H11 hmo hml k11 hmo11 ⟨B11, ws, rfl, hws⟩
  have I11 := I10.kp k11 hlb
  have k011 := k010.trans k11
  have hp11 := k11 p _ hp10 (by simpa using pb)
  have hmoq : mo ∉ qs := fun z => by
    have := (I10.2.2 mo z).2.2.1
    rw [hmo] at this; cases this
  have hmop : mo ≠ pl := ne_n' hmo I10.1
  have hmo3 : H mo = none := kp_free B10 k010 hmo
  have hpmo : p ≠ mo := ne_n hmo hp10
  rw [List.length_map] at hml
  clear I10 B10 k010 hp10 k11 hmo hsp10 hsl
  walk_at "w"
  refine s_cut (fun σ' H' => ∃ (qs : List Addr) (ρ : Addr → List Int), σ' = [some (.ref b), some (.int n), some (.ref p), z3, z4, some (.ref pl), some (.ref tk), z7, some (.ref sp), some (.int st), z10, some (.ref mo), none] ∧ lanO n H H' pl qs ρ ∧ qs.length ≤ 4 ∧ (∀ z ∈ qs, p ≠ z) ∧ Box H' b q ∧ Kp [b] H H' ∧ H' p = some (.lst (us.map V.int))) ?_ ?_
  · walk_at "w"
    intro t ht
    have kt := Kp.refl.new (ms := []) (o := .lst []) ht
    refine w_neLI0 (kt.at0 hmo11) upd_same ?_
    have I12 := I11.kp0 kt
    have B12 := B11.kp kt
    have k012 := k011.trans0 kt
    have hp12 := kt.at0 hp11
    have hmo12 := kt.at0 hmo11
    generalize upd H11 t (.lst []) = H12 at I12 B12 k012 hp12 hmo12 ⊢
    have hpl12 := I12.1
    walk_at "w"
    refine w_iteN (fun c => ?_) (fun c => ?_)
    · walk_at "w"
      rw [map_app1]
      refine ⟨qs ++ [mo], _, rfl, I12.app hmo12 hmoq hmop hmo3 (by omega) hws, by simp; omega, fun z hz => ?_, B12.mut (B.b I12.2.1) (B.q I12.2.1), k012.own I12.2.1, upd_get hpl hp12⟩
      rcases List.mem_append.mp hz with c | c
      · exact hpq z c
      · rw [List.mem_singleton.mp c]; exact hpmo
    · walk_at "w"
      exact ⟨qs, ρ, rfl, I12, by omega, hpq, B12, k012, hp12⟩
  clear I11 B11 k011 hp11 hmo11 hmoq hmop hmo3 hpmo hql hpq hws
  clear qs ρ
  rintro σ' H12 ⟨qs, ρ, rfl, I12, hql, hpq, B12, k012, hp12⟩
  walk_at "w"
  refine w_rng1 (n := 30) (by omega) (by omega) (fun i σ' H' => ∃ (us : List Int) (ρ : Addr → List Int) (y3 z7 z12 : Option V), σ' = [some (.ref b), some (.int n), some (.ref p), y3, z4, some (.ref pl), some (.ref tk), z7, some (.ref sp), some (.int st), z10, some (.ref mo), z12] ∧ lanO n H H' pl qs ρ ∧ Box H' b q ∧ Kp [b] H H' ∧ H' p = some (.lst (us.map V.int)) ∧ us.length ≤ 6 + i ∧ ∀ u ∈ us, 1 ≤ u ∧ u ≤ n) ⟨us, ρ, _, _, _, rfl, I12, B12, k012, hp12, by omega, hus⟩ ?_ ?_
  · clear I12 B12 k012 hp12 hul hus z7
    rintro i σ' H13 hi ⟨us, ρ, y3, z7, z12, rfl, I13, B13, k13, hp13, hul, hus⟩
    have hpl13 := I13.1
    walk_at "w"
    refine w_lcM (f := V.ref) (f' := V.ref) (fun z => if ρ z = [] then none else some z) hpl13 (by rw [sizeLine_eq]; omega) ?_ ?_
    · intro D j u acc H' hD hu hk hA hlen
      have hu13 := (I13.2.2 u (List.mem_of_getElem? hu)).2.2.1
      walk_at "w"
      refine ⟨rfl, ?_⟩
      walk_at "w"
      intro t ht
      have hDt : D ≠ t := ne_of_none hA ht
      refine w_neLI0 (upd_new ht (hk.at0 hu13)) upd_same ?_
      have k2 := hk.new (o := .lst []) ht
      have hA2 : upd H' t (.lst []) D = some (.lst acc) := upd_get hDt hA
      generalize upd H' t (.lst []) = H2 at k2 hA2 ⊢
      walk_at "w"
      refine w_iteN (fun c => ?_) (fun c => ?_)
      · walk_at "w"
        exact w_keep k2 hA2 hlen hD (by rw [if_neg c])
      · walk_at "w"
        exact w_drop k2 hA2 (by rw [if_pos c])
    · intro D H14 hD k14 hA
      have hos : ∀ z ∈ qs.filterMap (fun z => if ρ z = [] then none else some z), z ∈ qs ∧ ρ z ≠ [] := by
        intro z hz
        obtain ⟨y, hy, e⟩ := List.mem_filterMap.mp hz
        split at e
        · cases e
        · rename_i c
          cases e
          exact ⟨hy, c⟩
      have hol := fm_len (fun z => if ρ z = [] then none else some z) qs
      generalize qs.filterMap (fun z => if ρ z = [] then none else some z) = os at hA hos hol
      have I14 := I13.kp0 k14
      have B14 := B13.kp k14
      have k014 := k13.trans0 k14
      have hp14 := k14.at0 hp13
      have hDb := B13.b hD
      walk_at "w"
      intro t ht
      have kt := Kp.refl.new (ms := []) (o := .lst []) ht
      refine w_neRefs (ρ := ρ) (kt.at0 hA) upd_same (fun z hz => kt.at0 (I14.2.2 z (hos z hz).1).2.2.1) ?_
      have I15 := I14.kp0 kt
      have B15 := B14.kp kt
      have k015 := k014.trans0 kt
      have hp15 := kt.at0 hp14
      have hA15 := kt.at0 hA
      generalize upd H14 t (.lst []) = H15 at I15 B15 k015 hp15 hA15 ⊢
      clear I13 B13 k13 hp13 hD k14 hA I14 B14 k014 hp14 ht kt hpl13
      walk_at "w"
      refine w_iteN (fun c => ?_) (fun c => ?_)
      · have hoz : 0 < os.length := List.length_pos_iff.mpr c
        walk_at "w"
        refine ⟨b, q, _, rfl, B15, by omega, by omega, fun x H16 x0 x1 B16 k16 => ?_⟩
        have I16 := I15.kp k16 hlb
        have k016 := k015.trans k16
        have hp16 := k16 p _ hp15 (by simpa using pb)
        have hA16 := k16 D _ hA15 (by simpa using hDb)
        have hox : os[x.toNat]? = some os[x.toNat] := List.getElem?_eq_getElem (by omega)
        obtain ⟨hm, hne⟩ := hos _ (List.mem_of_getElem? hox)
        generalize os[x.toNat] = lz at hox hm hne
        obtain ⟨l1, l2, l3, l4, l5⟩ := I16.2.2 lz hm
        have hrl : 0 < (ρ lz).length := List.length_pos_iff.mpr hne
        have hpz := hpq lz hm
        refine w_ixL (v := .ref lz) hA16 x0 (by rw [List.getElem?_map, hox]; rfl) ?_
        walk_at "w"
        refine ⟨us ++ [(ρ lz).getD 0 default], _, _, _, _, rfl, (I16.pop hm).mut (Ne.symm hpl) hpq, (B16.mut (B.b l1) (B.q l1)).mut pb pq, (k016.own l1).own hp, upd_same, by simp; omega, fun u hu => ?_⟩
        · rcases List.mem_append.mp hu with d | d
          · exact hus u d
          · rw [List.mem_singleton.mp d]
            refine l5 _ ?_
            rw [List.getD_eq_getElem?_getD, List.getElem?_eq_getElem hrl]
            exact List.getElem_mem _
      · walk_at "w"
        exact ⟨us, ρ, _, _, _, rfl, I15, B15, k015, hp15, by omega, hus⟩
  · clear I12 B12 k012 hp12 hul hus z7
    rintro σ' H13 ⟨us, ρ, y3, z7, z12, rfl, I13, B13, k13, hp13, hul, hus⟩
    walk_at "w"
    exact k p us H13 hp hp13 (by omega) hus B13 k13
theorem okTo_app {n : Int} {t : St3} {log : List Int} {o : Int} (h : okTo n t log log.length) (ho : OkAt n (runS t log) o) : okTo n t (log ++ [o]) (log ++ [o]).length := by
  intro j u hj hu
  by_cases z : j < log.length
  · rw [List.getElem?_append_left z] at hu
    rw [List.take_append_of_le_length (by omega)]
    exact h j u z hu
  · rw [List.length_append, List.length_singleton] at hj
    obtain rfl : j = log.length := by omega
    rw [List.getElem?_append_right (by omega), Nat.sub_self] at hu
    cases hu
    rw [List.take_left]
    exact ho
theorem runS_full {n : Int} {log : List Int} (n0 : 0 ≤ n) (n1 : n ≤ 60) (hok : okTo n (s0 n) log log.length) : WFs n (runS (s0 n) log) := by
  have := runS_wf (wfs0 n0 n1) log.length (Nat.le_refl _) hok
  rwa [List.take_length] at this
def sp__law_log (a : AD) : Sp := fun vs H Q _ => ∃ (b q : Addr) (n : Int), vs = [.ref b, .int n] ∧ Box H b q ∧ 0 ≤ n ∧ n ≤ 60 ∧ ∀ (p : Addr) (log : List Int) (H' : Hp), H p = none → H' p = some (.lst (log.map V.int)) → okTo n (s0 n) log log.length → log.length ≤ 36 → Box H' b q → Kp [b] H H' → Q (.ref p) H'
theorem sc__law_log : FnScope ["_law_bag_here", "_law_size_here", "_law_book", "_law_moves", "_law_node"] ["_law_bag_here", "_law_size_here"] (defScope s__law_log) := ⟨rfl, rfl, rfl, by decide +kernel, rfl, by decide +kernel, by decide +kernel⟩
theorem ok__law_log {P : Program} {w : World} {K : PySem.W.Frag} {mg : Str → Option Value} {base : Heap} {a : AD} (T : Txt P K mg a) (G__law_whole : FnA P w K mg base 2 a.f__law_whole ["_law_size_here"] (sp__law_whole a)) (G__law_nodes : FnA P w K mg base 4 a.f__law_nodes ["_law_bag_here", "_law_size_here"] (sp__law_nodes a)) (G__law_operation : FnA P w K mg base 2 a.f__law_operation ["_law_book", "_law_node"] (sp__law_operation a)) (G__law_step : FnA P w K mg base 2 a.f__law_step ["_law_book", "_law_node"] (sp__law_step a)) : FnA P w K mg base 5 a.f__law_log ["_law_bag_here", "_law_size_here"] (sp__law_log a) := by
  obtain ⟨fd, F, b⟩ := T.F__law_log
  refine FnA.of F sc__law_log b (fun vs H Q E h => by first | (obtain ⟨rfl, _⟩ := h; rfl) | (obtain ⟨_, rfl, _⟩ := h; rfl) | (obtain ⟨_, _, rfl, _⟩ := h; rfl) | (obtain ⟨_, _, _, rfl, _⟩ := h; rfl) | (obtain ⟨_, _, _, _, rfl, _⟩ := h; rfl) | (obtain ⟨_, _, _, _, _, rfl, _⟩ := h; rfl) | (obtain ⟨_, _, _, _, _, _, rfl, _⟩ := h; rfl) | (obtain ⟨_, _, _, _, _, _, _, rfl, _⟩ := h; rfl) | (obtain ⟨_, _, _, _, _, _, _, _, rfl, _⟩ := h; rfl) | (obtain ⟨_, _, _, _, _, _, _, _, _, rfl, _⟩ := h; rfl) | (obtain ⟨_, _, _, _, _, _, _, _, _, _, rfl, _⟩ := h; rfl) | (obtain ⟨_, _, _, _, _, _, _, _, _, _, _, rfl, _⟩ := h; rfl) | (obtain ⟨_, _, _, _, _, _, _, _, _, _, _, _, rfl, _⟩ := h; rfl) | (obtain ⟨_, _, _, _, _, _, _, _, _, _, _, _, _, rfl, _⟩ := h; rfl) | (obtain ⟨_, _, _, _, _, _, _, _, _, _, _, _, _, _, rfl, _⟩ := h; rfl) | (obtain ⟨_, _, _, _, _, _, _, _, _, _, _, _, _, _, _, rfl, _⟩ := h; rfl) | (obtain ⟨_, _, _, _, _, _, _, _, _, _, _, _, _, _, _, _, rfl, _⟩ := h; rfl) | (obtain ⟨_, _, _, _, _, _, _, _, _, _, _, _, _, _, _, _, _, rfl, _⟩ := h; rfl) | (obtain ⟨_, _, _, _, _, _, _, _, _, _, _, _, _, _, _, _, _, _, rfl, _⟩ := h; rfl) | (obtain ⟨_, _, _, _, _, _, _, _, _, _, _, _, _, _, _, _, _, _, _, rfl, _⟩ := h; rfl) | (obtain ⟨_, _, _, _, _, _, _, _, _, _, _, _, _, _, _, _, _, _, _, _, rfl, _⟩ := h; rfl) | (obtain ⟨_, _, _, _, _, _, _, _, _, _, _, _, _, _, _, _, _, _, _, _, _, rfl, _⟩ := h; rfl) | (obtain ⟨_, _, _, _, _, _, _, _, _, _, _, _, _, _, _, _, _, _, _, _, _, _, rfl, _⟩ := h; rfl) | (obtain ⟨_, _, _, _, _, _, _, _, _, _, _, _, _, _, _, _, _, _, _, _, _, _, _, rfl, _⟩ := h; rfl)) (fun cdv A outer s H vs Q E hr tk pz h => ?_)
  have hu := hr.units
  have hrH := L2H.roomH_of hr
  obtain ⟨b, q, n, rfl, B, n0, n1, k⟩ := h
  refine ⟨_, (pss_cons (ps_set (i := 2) sc__law_log.nd rfl (Or.inl rfl) (pe_callA G__law_whole (Room.mono hr (by decide)) T.n__law_whole tk (pa_cons (pv 1) pa_nil)))
      (pss_cons (ps_set (i := 3) sc__law_log.nd rfl (Or.inl rfl) (pe_lst pa_nil))
      (pss_cons (ps_if (pt_cmpA (o_eq hu) (pv 1) pe_int (nomark _)) (pss_one (ps_ret (pv 3))) pss_nil)
      (pss_cons (ps_for pz rfl (pi_list (pe_callA G__law_nodes (Room.mono hr (by decide)) T.n__law_nodes tk (pa_cons (pv 0) (pa_cons (pv 1) pa_nil)))) (pg_name (i := 4) sc__law_log.nd rfl (Or.inl rfl))
      (pss_cons (ps_expr (pe_bm PySem.F.plainAttrs_list PySem.F.slot_list_append PySem.F.type_list_append mt_append (pv 3) (pa_cons (pe_callA G__law_operation (Room.mono hr (by decide)) T.n__law_operation tk (pa_cons (pv 2) (pa_cons (pv 4) pa_nil))) pa_nil)))
      (pss_one (ps_expr (pe_callA G__law_step (Room.mono hr (by decide)) T.n__law_step tk (pa_cons (pv 2) (pa_cons (pv 4) pa_nil)))))))
      (pss_one (ps_ret (pv 3))))))), ?_⟩
  show (_ : Ends → L2.St → Hp → Prop) _ [some _, some _, none, none, none] _
  try dsimp only [L2H.cxH, cxOf]
  walk_at "w"
  refine ⟨n, rfl, n0, n1, fun w l r f H1 hw hl hr hf hB k1 => ?_⟩
  have B1 := B.kp k1
  walk_at "w"
  intro p hp
  have kp := Kp.refl.new (ms := []) (o := .lst []) hp
  have hp1 : upd H1 p (.lst []) p = some (.lst (([] : List Int).map V.int)) := upd_same
  have hB2 := hB.kp0 kp
  have B2 := B1.kp kp
  have k2 := (k1.trans0 kp).mono (ns := [b]) (by simp)
  have pn := nm_of hp hB.live
  have hp0 := k1.free hp
  have pb := B1.b hp
  have pq := B1.q hp
  generalize upd H1 p (.lst []) = H2 at hp1 hB2 B2 k2 ⊢
  walk_at "w"
  refine w_ite (fun c => ?_) (fun c => ?_)
  · walk_at "w"
    exact k p [] H2 hp0 hp1 (fun j o hj => by simp at hj) (by simp) B2 k2
  walk_at "w"
  refine ⟨b, q, n, rfl, B2, by omega, n1, fun d us H3 hd hd3 hul hus B3 k3 => ?_⟩
  have off : ∀ y ∈ [w, l, r, f], y ∉ [b] := fun y hy z => by
    rw [List.mem_singleton.mp z] at hy
    simp only [List.mem_cons, List.mem_nil_iff, or_false] at hy
    rcases hy with e | e | e | e
    · exact B.b hw e.symm
    · exact B.b hl e.symm
    · exact B.b hr e.symm
    · exact B.b hf e.symm
  have hB3 : Bk H3 w l r f n (s0 n) := Wd.kpS hB2 k3 off
  have hp3 := k3 p _ hp1 (by simpa using pb)
  have k03 := k2.trans k3
  have dp : d ≠ p := ne_n' hd hp1
  have dn : d ∉ [l, r, f] := nm_sub (nm_of hd hB2.live) (by simp)
  have lrf : ∀ y ∈ [l, r, f], H y = none := by
    intro y hy
    simp only [List.mem_cons, List.mem_nil_iff, or_false] at hy
    rcases hy with rfl | rfl | rfl <;> assumption
  have hlB : ∀ {H' : Hp}, Box H' b q → ∀ y ∈ [b, q], ∃ o, H' y = some o := fun h => h.live
  have bq : ∀ y ∈ [l, r, f], y ≠ b ∧ y ≠ q := fun y hy => ⟨B.b (lrf y hy), B.q (lrf y hy)⟩
  clear hB hB2 B1 B2 k1 k2 k3 kp hp hp1
  refine w_forM (us := us) (f := V.int) (p := d) hd3 (fun i σ' H' => ∃ (log : List Int) (z4 : Option V), σ' = [some (.ref b), some (.int n), some (.ref w), some (.ref p), z4] ∧ H' d = some (.lst (us.map V.int)) ∧ H' p = some (.lst (log.map V.int)) ∧ log.length = i ∧ okTo n (s0 n) log log.length ∧ Bk H' w l r f n (runS (s0 n) log) ∧ Box H' b q ∧ Kp [b] H H') ⟨[], _, rfl, hd3, hp3, rfl, fun j o hj => by simp at hj, hB3, B3, k03⟩ (fun i σ' H' _ h => by obtain ⟨_, _, _, h, _⟩ := h; exact h) ?_ ?_
  · clear hd3 hp3 hB3 B3 k03
    rintro i u σ' H4 hu ⟨log, z4, rfl, hd4, hp4, hll, hok, hB4, B4, k4⟩
    have hu1 := hus u (List.mem_of_getElem? hu)
    have hil : i < us.length := (List.getElem?_eq_some_iff.mp hu).1
    have W := runS_full n0 n1 hok
    walk_at "w"
    refine ⟨w, l, r, f, n, u, _, rfl, hB4, W, hu1.1, hu1.2, ?_⟩
    have hO := opF_ok (n := n) (s := runS (s0 n) log) hu1.1 hu1.2
    walk_at "w"
    have hB5 : Bk (upd H4 p (.lst ((log ++ [opF (runS (s0 n) log) u]).map V.int))) w l r f n (runS (s0 n) log) := Wd.kpS hB4 (Kp.refl.mut (ms := [p]) (by simp)) (nm_swap pn)
    refine ⟨w, l, r, f, n, u, _, rfl, hB5, W, hu1.1, hu1.2, fun H5 hB6 W6 k5 => ?_⟩
    walk_at "w"
    refine ⟨log ++ [opF (runS (s0 n) log) u], _, rfl, k5 d _ (upd_get dp hd4) dn, k5 p _ upd_same (nm_sub pn (by simp)), by simp [hll], okTo_app hok hO.2.2, ?_, (B4.mut pb pq).kpm k5 (fun z => (bq b z).1 rfl) (fun z => (bq q z).2 rfl), ?_⟩
    · rw [runS_snoc]; exact hB6
    · intro y o e hy
      refine k5 y o ?_ (fun z => by rw [lrf y z] at e; cases e)
      rw [upd_ne (fun z => by rw [z, hp0] at e; cases e)]
      exact k4 y o e hy
  · clear hd3 hp3 hB3 B3 k03
    rintro σ' H4 ⟨log, z4, rfl, hd4, hp4, hll, hok, hB4, B4, k4⟩
    walk_at "w"
    exact k p log H4 hp0 hp4 hok (by omega) B4 k4
/-! ### what the law tells of a log -/
def mixM {α : Type} (f : Nat → Nat → α) (N i j : Nat) : List α := (List.range N).map fun g => f g (if g < j then i + 1 else i)
theorem mixM_get {α : Type} {f : Nat → Nat → α} {N i j g : Nat} (h : g < N) : (mixM f N i j)[g]? = some (f g (if g < j then i + 1 else i)) := by
  unfold mixM
  rw [List.getElem?_map, List.getElem?_range h]; rfl
theorem mixM_len {α : Type} (f : Nat → Nat → α) (N i j : Nat) : (mixM f N i j).length = N := by simp [mixM]
theorem mixM_set {α : Type} {f : Nat → Nat → α} {N i j : Nat} (h : j < N) : (mixM f N i j).set j (f j (i + 1)) = mixM f N i (j + 1) := by
  apply List.ext_getElem?
  intro g
  by_cases c : g < N
  · rw [mixM_get c]
    by_cases z : j = g
    · subst z
      rw [List.getElem?_set_self (by rw [mixM_len]; exact h), if_pos (by omega)]
    · rw [List.getElem?_set_ne z, mixM_get c]
      by_cases y : g < j
      · rw [if_pos y, if_pos (by omega)]
      · rw [if_neg y, if_neg (by omega)]
  · rw [List.getElem?_eq_none (by rw [List.length_set, mixM_len]; omega), List.getElem?_eq_none (by rw [mixM_len]; omega)]
theorem mixM_same {α : Type} {f : Nat → Nat → α} {N i j : Nat} (h : f j (i + 1) = f j i) : mixM f N i j = mixM f N i (j + 1) := by
  unfold mixM
  apply List.map_congr_left
  intro g _
  by_cases z : g < j
  · rw [if_pos z, if_pos (by omega)]
  · rw [if_neg z]
    by_cases y : g = j
    · subst y; rw [if_pos (by omega), h]
    · rw [if_neg (by omega)]
theorem mixM_end {α : Type} {f : Nat → Nat → α} {N i : Nat} : mixM f N i N = mixM f N (i + 1) 0 := by
  unfold mixM
  apply List.map_congr_left
  intro g hg
  rw [List.mem_range] at hg
  rw [if_pos hg, if_neg (by omega)]
def rwsF (n : Int) (log : List Int) (g i : Nat) : List Int := rowF (s0 n) log (g : Int) i
def stsF (n : Int) (log : List Int) (g i : Nat) : Str := stAt (s0 n) log i (g : Int)
def lossL (n : Int) (log : List Int) (k : Nat) : List (List V) := (List.range k).filterMap fun g : Nat => if stAt (s0 n) log log.length (g : Int) = ("lost" : Str) then some (certT n log (g : Int)) else none
theorem lossL_eq (n : Int) (log : List Int) : lossL n log (n + 1).toNat = (lostE n log).map (certT n log) := by
  unfold lossL lostE lostF
  rw [List.map_filterMap]
  apply fm_congr
  intro i _
  have e : stAt (s0 n) log log.length (i : Int) = stateOf (runS (s0 n) log).1 (runS (s0 n) log).2.1 (i : Int) := by unfold stAt; rw [List.take_length]
  rw [e]
  split <;> rfl
theorem lossL_succ (n : Int) (log : List Int) (k : Nat) : lossL n log (k + 1) = lossL n log k ++ (if stAt (s0 n) log log.length (k : Int) = ("lost" : Str) then [certT n log (k : Int)] else []) := by
  unfold lossL
  rw [List.range_succ, List.filterMap_append]
  congr 1
  rw [List.filterMap_cons, List.filterMap_nil]
  by_cases z : stAt (s0 n) log log.length (k : Int) = ("lost" : Str)
  · rw [if_pos z, if_pos z]
  · rw [if_neg z, if_neg z]
def sp__law_losses (a : AD) : Sp := fun vs H Q _ => ∃ (n : Int) (p : Addr) (log : List Int), vs = [.int n, .ref p] ∧ 0 ≤ n ∧ n ≤ 60 ∧ H p = some (.lst (log.map V.int)) ∧ log.length ≤ 1000 ∧ okTo n (s0 n) log log.length ∧ ∀ (d : Addr) (xs : List V) (H' : Hp), H d = none → Kp [] H H' → H' d = some (.lst xs) → Tps H' xs ((lostE n log).map (certT n log)) → Q (.ref d) H'
theorem sc__law_losses : FnScope ["_law_size_here", "_law_moves", "_law_book", "_law_gap", "_law_rows", "_law_states", "_law_place", "_law_state_here", "_law_row"] ["_law_size_here", "_law_moves"] (defScope s__law_losses) := ⟨rfl, rfl, rfl, by decide +kernel, rfl, by decide +kernel, by decide +kernel⟩
theorem ok__law_losses {P : Program} {w : World} {K : PySem.W.Frag} {mg : Str → Option Value} {base : Heap} {a : AD} (T : Txt P K mg a) (G__law_whole : FnA P w K mg base 2 a.f__law_whole ["_law_size_here"] (sp__law_whole a)) (G__law_step : FnA P w K mg base 2 a.f__law_step ["_law_book", "_law_node"] (sp__law_step a)) (G__law_state : FnA P w K mg base 2 a.f__law_state ["_law_book", "_law_gap"] (sp__law_state a)) : FnA P w K mg base 3 a.f__law_losses ["_law_size_here", "_law_moves"] (sp__law_losses a) := by
  obtain ⟨fd, F, b⟩ := T.F__law_losses
  refine FnA.of F sc__law_losses b (fun vs H Q E h => by first | (obtain ⟨rfl, _⟩ := h; rfl) | (obtain ⟨_, rfl, _⟩ := h; rfl) | (obtain ⟨_, _, rfl, _⟩ := h; rfl) | (obtain ⟨_, _, _, rfl, _⟩ := h; rfl) | (obtain ⟨_, _, _, _, rfl, _⟩ := h; rfl) | (obtain ⟨_, _, _, _, _, rfl, _⟩ := h; rfl) | (obtain ⟨_, _, _, _, _, _, rfl, _⟩ := h; rfl) | (obtain ⟨_, _, _, _, _, _, _, rfl, _⟩ := h; rfl) | (obtain ⟨_, _, _, _, _, _, _, _, rfl, _⟩ := h; rfl) | (obtain ⟨_, _, _, _, _, _, _, _, _, rfl, _⟩ := h; rfl) | (obtain ⟨_, _, _, _, _, _, _, _, _, _, rfl, _⟩ := h; rfl) | (obtain ⟨_, _, _, _, _, _, _, _, _, _, _, rfl, _⟩ := h; rfl) | (obtain ⟨_, _, _, _, _, _, _, _, _, _, _, _, rfl, _⟩ := h; rfl) | (obtain ⟨_, _, _, _, _, _, _, _, _, _, _, _, _, rfl, _⟩ := h; rfl) | (obtain ⟨_, _, _, _, _, _, _, _, _, _, _, _, _, _, rfl, _⟩ := h; rfl) | (obtain ⟨_, _, _, _, _, _, _, _, _, _, _, _, _, _, _, rfl, _⟩ := h; rfl) | (obtain ⟨_, _, _, _, _, _, _, _, _, _, _, _, _, _, _, _, rfl, _⟩ := h; rfl) | (obtain ⟨_, _, _, _, _, _, _, _, _, _, _, _, _, _, _, _, _, rfl, _⟩ := h; rfl) | (obtain ⟨_, _, _, _, _, _, _, _, _, _, _, _, _, _, _, _, _, _, rfl, _⟩ := h; rfl) | (obtain ⟨_, _, _, _, _, _, _, _, _, _, _, _, _, _, _, _, _, _, _, rfl, _⟩ := h; rfl) | (obtain ⟨_, _, _, _, _, _, _, _, _, _, _, _, _, _, _, _, _, _, _, _, rfl, _⟩ := h; rfl) | (obtain ⟨_, _, _, _, _, _, _, _, _, _, _, _, _, _, _, _, _, _, _, _, _, rfl, _⟩ := h; rfl) | (obtain ⟨_, _, _, _, _, _, _, _, _, _, _, _, _, _, _, _, _, _, _, _, _, _, rfl, _⟩ := h; rfl) | (obtain ⟨_, _, _, _, _, _, _, _, _, _, _, _, _, _, _, _, _, _, _, _, _, _, _, rfl, _⟩ := h; rfl)) (fun cdv A outer s H vs Q E hr tk pz h => ?_)
  have hu := hr.units
  have hrH := L2H.roomH_of hr
  obtain ⟨n, p, log, rfl, n0, n1, hp, hlen, hok, k⟩ := h
  refine ⟨_, (pss_cons (ps_set (i := 2) sc__law_losses.nd rfl (Or.inl rfl) (pe_callA G__law_whole (Room.mono hr (by decide)) T.n__law_whole tk (pa_cons (pv 0) pa_nil)))
      (pss_cons (ps_set (i := 4) sc__law_losses.nd rfl (Or.inr rfl) (pe_lc (own := [("_law_gap", 3)]) (g := (gName 3)) (tt := tYes) rfl sc__law_losses.nd (pi_range1 rfl T.b_range (pa_cons (pe_op o_add (pv 0) pe_int) pa_nil)) (blkOk_by (own := [("_law_gap", 3)]) (N := ["_law_size_here", "_law_moves", "_law_book", "_law_gap", "_law_rows", "_law_states", "_law_place", "_law_state_here", "_law_row"]) (sc := defScope s__law_losses) (by decide +kernel)) (fun _ _ _ _ _ => (pg_name (i := 3) sc__law_losses.nd rfl (Or.inl rfl))) (fun _ _ _ _ _ => pts_nil) (fun _ _ _ _ _ => (pe_lst pa_nil))))
      (pss_cons (ps_set (i := 5) sc__law_losses.nd rfl (Or.inr rfl) (pe_lc (own := [("_law_gap", 3)]) (g := (gName 3)) (tt := tYes) rfl sc__law_losses.nd (pi_range1 rfl T.b_range (pa_cons (pe_op o_add (pv 0) pe_int) pa_nil)) (blkOk_by (own := [("_law_gap", 3)]) (N := ["_law_size_here", "_law_moves", "_law_book", "_law_gap", "_law_rows", "_law_states", "_law_place", "_law_state_here", "_law_row"]) (sc := defScope s__law_losses) (by decide +kernel)) (fun _ _ _ _ _ => (pg_name (i := 3) sc__law_losses.nd rfl (Or.inl rfl))) (fun _ _ _ _ _ => pts_nil) (fun _ _ _ _ _ => pe_str)))
      (pss_cons (ps_for pz rfl (pi_range1 rfl T.b_range (pa_cons (pe_callB (b_len) rfl T.b_len (by decide +kernel) (pa_cons (pv 1) pa_nil)) pa_nil)) (pg_name (i := 6) sc__law_losses.nd rfl (Or.inl rfl))
      (pss_cons (ps_expr (pe_callA G__law_step (Room.mono hr (by decide)) T.n__law_step tk (pa_cons (pv 2) (pa_cons (pe_callB (b_abs) rfl T.b_abs (by decide +kernel) (pa_cons (pe_ix ix_seq (pv 1) (pv 6) (fun _ _ => rfl)) pa_nil)) pa_nil))))
      (pss_one (ps_for pz rfl (pi_range1 rfl T.b_range (pa_cons (pe_op o_add (pv 0) pe_int) pa_nil)) (pg_name (i := 3) sc__law_losses.nd rfl (Or.inl rfl))
      (pss_cons (ps_set (i := 7) sc__law_losses.nd rfl (Or.inl rfl) (pe_callA G__law_state (Room.mono hr (by decide)) T.n__law_state tk (pa_cons (pv 2) (pa_cons (pv 3) pa_nil))))
      (pss_one (ps_if (pt_cmpA (o_ne hu) (pv 7) (pe_ix ix_seq (pv 5) (pv 3) (fun _ _ => rfl)) (nomark _)) (pss_cons (ps_set (i := 8) sc__law_losses.nd rfl (Or.inl rfl) (pe_ix ix_seq (pv 4) (pv 3) (fun _ _ => rfl)))
      (pss_cons (ps_expr (pe_bm PySem.F.plainAttrs_list PySem.F.slot_list_append PySem.F.type_list_append mt_append (pv 8) (pa_cons (pv 6) pa_nil)))
      (pss_one (ps_asg (pv 7) (pg_sub (pv 5) (pv 3) set_list))))) pss_nil)))))))
      (pss_one (ps_ret (pe_lc (own := [("_law_gap", 3)]) (g := (gName 3)) rfl sc__law_losses.nd (pi_range1 rfl T.b_range (pa_cons (pe_op o_add (pv 0) pe_int) pa_nil)) (blkOk_by (own := [("_law_gap", 3)]) (N := ["_law_size_here", "_law_moves", "_law_book", "_law_gap", "_law_rows", "_law_states", "_law_place", "_law_state_here", "_law_row"]) (sc := defScope s__law_losses) (by decide +kernel)) (fun _ _ _ _ _ => (pg_name (i := 3) sc__law_losses.nd rfl (Or.inl rfl))) (fun _ _ _ _ _ => (pts_one (pt_cmpA (show OpR _ _ (aEq K) from (o_eq hu)) (pe_ix (show IxR _ (rIx K) from ix_seq) (pv 5) (pv 3) (fun _ _ => rfl)) pe_str (nomark _)))) (fun _ _ _ _ _ => (pe_tup (pa_cons (pv 3) (pa_cons (pe_ix (show IxR _ (rIx K) from ix_seq) (pe_ix (show IxR _ (rIx K) from ix_seq) (pv 4) (pv 3) (fun _ _ => rfl)) (pe_un un_neg pe_int) (fun _ _ => rfl)) (pa_cons (pe_ix (show IxR _ (rIx K) from ix_seq) (pe_ix (show IxR _ (rIx K) from ix_seq) (pv 4) (pv 3) (fun _ _ => rfl)) (pe_un un_neg pe_int) (fun _ _ => rfl)) pa_nil)))))))))))), ?_⟩
  show (_ : Ends → L2.St → Hp → Prop) _ [some _, some _, none, none, none, none, none, none, none] _
  try dsimp only [L2H.cxH, cxOf]
  have W0 := wfs0 n0 n1
  walk_at "w"
  refine ⟨n, rfl, n0, n1, fun w l r f H1 hw hl hr hf hB k1 => ?_⟩
  walk_at "w"
  refine w_lcRG1 (n := n + 1) [] (fun D i acc H' => ∃ qs : List Addr, acc = qs.map V.ref ∧ Rws H' qs (List.replicate i []) ∧ qs.Nodup ∧ ∀ x ∈ qs, H1 x = none ∧ x ≠ D) (by omega) (by omega) (fun D hD => ⟨[], rfl, .nil, List.nodup_nil, by simp⟩) ?_ ?_
  · rintro D i acc H' hD hi hlen' hk hA ⟨qs, rfl, hR, hN, hx⟩
    walk_at "w"
    refine ⟨rfl, ?_⟩
    walk_at "w"
    intro t ht
    have htq : t ∉ qs := fun z => by
      obtain ⟨j, hj, e⟩ := List.mem_iff_getElem.mp z
      obtain ⟨q, e1, e2⟩ := hR.at (i := j) (by rw [← hR.1]; exact hj)
      rw [List.getElem?_eq_getElem hj] at e1
      cases e1
      rw [e, ht] at e2; cases e2
    have hAt := upd_new (o := .lst []) ht hA
    have hDt : D ≠ t := ne_of_none hA ht
    refine w_keepG (hk.new ht) hAt hlen' (by rw [sizeLine_eq]; omega) hD ⟨qs ++ [t], map_app1, ?_, ?_, ?_⟩
    · rw [List.replicate_succ']
      have hR2 : Rws (upd (upd H' t (.lst [])) D (.lst (qs.map V.ref ++ [.ref t]))) qs (List.replicate i []) := Rws.kpS (hR.kp0 (Kp.refl.new ht)) (Kp.refl.mut (ms := [D]) (by simp)) (fun q hq => by simp; exact (hx q hq).2)
      exact hR2.snoc (xs := []) (upd_get (Ne.symm hDt) upd_same)
    · rw [List.nodup_append]
      refine ⟨hN, by simp, fun y hy z hz => ?_⟩
      rw [List.mem_singleton.mp hz]
      exact fun e => htq (e ▸ hy)
    · intro y hy
      rcases List.mem_append.mp hy with c | c
      · exact hx y c
      · rw [List.mem_singleton.mp c]
        exact ⟨hk.free ht, Ne.symm hDt⟩
  rintro rp acc H2 hrp hal k2 hrp2 ⟨qs, rfl, hR, hN, hx⟩
  walk_at "w"
  refine w_lcR1 (f' := V.str) (fun i : Nat => some ("joined" : Str)) (n := n + 1) (by omega) (by omega) (by rw [sizeLine_eq]; omega) ?_ ?_
  · intro D i acc H' hD hi hk hA hlen
    walk_at "w"
    refine ⟨rfl, ?_⟩
    walk_at "w"
    exact w_keep hk hA hlen hD rfl
  intro st H3 hst k3 hst3
  rw [fm_rep] at hst3
  have e0r : List.replicate (n + 1).toNat ([] : List Int) = mixM (rwsF n log) (n + 1).toNat 0 0 := by
    unfold mixM
    rw [← fm_rep, ← List.filterMap_eq_map]
    apply fm_congr
    intro g _
    rfl
  have e0s : List.replicate (n + 1).toNat ("joined" : Str) = mixM (stsF n log) (n + 1).toNat 0 0 := by
    unfold mixM
    rw [← fm_rep, ← List.filterMap_eq_map]
    apply fm_congr
    intro g hg
    rw [List.mem_range] at hg
    show some _ = some (stsF n log g (if g < 0 then 0 + 1 else 0))
    rw [if_neg (by omega)]
    unfold stsF stAt
    rw [List.take_zero]
    exact congrArg some (s0_joined (n := n) (by omega) (by omega)).symm
  rw [e0r] at hR
  rw [e0s] at hst3
  have hNl : qs.length = (n + 1).toNat := by rw [hR.1, mixM_len]
  have k13 := k2.trans0 k3
  have k03 := k1.trans0 k13
  have hB3 := hB.kp0 k13
  have hrp3 := k3.at0 hrp2
  have hR3 := hR.kp0 k3
  -- what stands apart
  have nrp : rp ∉ [w, l, r, f] := nm_of hrp hB.live
  have nst : st ∉ [w, l, r, f] := nm_of hst (hB.kp0 k2).live
  have nq : ∀ x ∈ qs, x ∉ [w, l, r, f] := fun x hx' => nm_of (hx x hx').1 hB.live
  have rps : rp ≠ st := ne_of_none hrp2 hst
  have qst : ∀ x ∈ qs, x ≠ st := fun x hx' => by
    obtain ⟨j, hj, e⟩ := List.mem_iff_getElem.mp hx'
    obtain ⟨y, e1, e2⟩ := hR.at (i := j) (by rw [← hR.1]; exact hj)
    rw [List.getElem?_eq_getElem hj] at e1
    cases e1
    rw [e] at e2
    exact ne_of_none e2 hst
  have hx0 : ∀ x ∈ qs, H x = none ∧ x ≠ rp := fun x hx' => ⟨k1.free (hx x hx').1, (hx x hx').2⟩
  have hrp0 : H rp = none := k1.free hrp
  have hst0 : H st = none := k1.free (k2.free hst)
  clear hB hrp2 hR hst hrp hx k1 k2 k3 k13
  walk_at "w"
  refine w_rng1 (n := (log.length : Int)) (by omega) (by omega) (fun i σ' H' => ∃ (z3 z6 z7 z8 : Option V), σ' = [some (.int n), some (.ref p), some (.ref w), z3, some (.ref rp), some (.ref st), z6, z7, z8] ∧ Kp [] H H' ∧ Bk H' w l r f n (runS (s0 n) (log.take i)) ∧ H' rp = some (.lst (qs.map V.ref)) ∧ Rws H' qs (mixM (rwsF n log) (n + 1).toNat i 0) ∧ H' st = some (.lst ((mixM (stsF n log) (n + 1).toNat i 0).map V.str))) ⟨_, _, _, _, rfl, k03, hB3, hrp3, hR3, hst3⟩ ?_ ?_
  · clear k03 hB3 hrp3 hR3 hst3
    rintro i σ' H4 hi ⟨z3, z6, z7, z8, rfl, k4, hB4, hrp4, hR4, hst4⟩
    have hu : log[i]? = some log[i] := List.getElem?_eq_getElem (by omega)
    generalize log[i] = u at hu
    have hgu : log.getD i default = u := gD_some hu
    obtain ⟨hO, Wi, v1, v2, _⟩ := ok_at W0 hok hu
    have hp4 := k4.at0 hp
    walk_at "w"
    rw [Int.toNat_natCast, hgu]
    refine ⟨w, l, r, f, n, (u.natAbs : Int), _, rfl, hB4, Wi, by omega, v2, fun H5 hB5 W5 k5 => ?_⟩
    have eop : opF (runS (s0 n) (log.take i)) (u.natAbs : Int) = u := by
      have h2 := hO.2
      unfold opF
      rw [Int.toNat_natCast]
      by_cases c : (runS (s0 n) (log.take i)).2.2.getD u.natAbs default = true
      · rw [if_pos c]
        rw [c] at h2
        have : ¬u < 0 := fun z => h2 (by simpa using z)
        omega
      · rw [if_neg c]
        have c' : (runS (s0 n) (log.take i)).2.2.getD u.natAbs default = false := by simpa using c
        rw [c'] at h2
        have : u < 0 := by
          rcases Int.lt_or_le u 0 with z | z
          · exact z
          · exact absurd (by symm; simpa using z) h2
        omega
    rw [eop] at hB5 W5
    have eS : stS (runS (s0 n) (log.take i)) u = runS (s0 n) (log.take (i + 1)) := by rw [take_snoc hu, runS_snoc]
    rw [eS] at hB5 W5
    have k05 : Kp [] H H5 := kp_new3 k4 hl hr hf k5
    have sub3 : ∀ z ∈ [l, r, f], z ∈ [w, l, r, f] := by simp
    have hrp5 := k5 rp _ hrp4 (nm_sub nrp sub3)
    have hst5 := k5 st _ hst4 (nm_sub nst sub3)
    have hR5 := hR4.kpS k5 (fun x hx' => nm_sub (nq x hx') sub3)
    clear k4 hB4 hrp4 hR4 hst4 k5 hp4
    walk_at "w"
    refine w_rng1 (n := n + 1) (by omega) (by omega) (fun j σ' H' => ∃ (z3 z7 z8 : Option V), σ' = [some (.int n), some (.ref p), some (.ref w), z3, some (.ref rp), some (.ref st), some (.int (i : Int)), z7, z8] ∧ Kp [] H H' ∧ Bk H' w l r f n (runS (s0 n) (log.take (i + 1))) ∧ H' rp = some (.lst (qs.map V.ref)) ∧ Rws H' qs (mixM (rwsF n log) (n + 1).toNat i j) ∧ H' st = some (.lst ((mixM (stsF n log) (n + 1).toNat i j).map V.str))) ⟨_, _, _, rfl, k05, hB5, hrp5, hR5, hst5⟩ ?_ ?_
    · clear k05 hB5 hrp5 hR5 hst5
      rintro j σ' H6 hj ⟨z3, z7, z8, rfl, k6, hB6, hrp6, hR6, hst6⟩
      have hjn : j < (n + 1).toNat := by omega
      have hml := mixM_len (stsF n log) (n + 1).toNat i j
      have hsg : (mixM (stsF n log) (n + 1).toNat i j).getD j default = stAt (s0 n) log i (j : Int) := by
        rw [List.getD_eq_getElem?_getD, mixM_get hjn, if_neg (by omega)]; rfl
      obtain ⟨y, hy1, hy2⟩ := hR6.at (i := j) (by rw [mixM_len]; exact hjn)
      have hrg : (mixM (rwsF n log) (n + 1).toNat i j).getD j [] = rowF (s0 n) log (j : Int) i := by
        rw [List.getD_eq_getElem?_getD, mixM_get hjn, if_neg (by omega)]; rfl
      rw [hrg] at hy2
      have hyq := List.mem_of_getElem? hy1
      have hyr := (hx0 y hyq).2
      have hys := qst y hyq
      have hrl := rowF_len (s0 n) log (j : Int) i
      walk_at "w"
      refine ⟨w, l, r, f, n, j, _, rfl, hB6, W5, by omega, by omega, ?_⟩
      have e6 : stateOf (runS (s0 n) (log.take (i + 1))).1 (runS (s0 n) (log.take (i + 1))).2.1 (j : Int) = stAt (s0 n) log (i + 1) (j : Int) := rfl
      rw [e6]
      walk_at "w"
      rw [Int.toNat_natCast, hsg]
      refine w_iteN (fun c => ?_) (fun c => ?_)
      · walk_at "w"
        rw [Int.toNat_natCast, gD_some hy1]
        walk_at "w"
        have eR : rowF (s0 n) log (j : Int) i ++ [(i : Int)] = rwsF n log j (i + 1) := by
          unfold rwsF; rw [rowF, if_neg c]
        rw [eR]
        have hR7 := hR6.set hN (xs := rwsF n log j (i + 1)) hy1
        rw [mixM_set hjn] at hR7
        refine ⟨_, _, _, rfl, (k6.own (hx0 y hyq).1).own hst0, ?_, upd_get rps (upd_get (Ne.symm hyr) hrp6), ?_, ?_⟩
        · exact Wd.kpS hB6 ((Kp.refl (ms := [y, st])).mut (p := y) (by simp) |>.mut (by simp)) (fun x hx' z => by
            simp only [List.mem_cons, List.mem_nil_iff, or_false] at z
            rcases z with rfl | rfl
            · exact nq _ hyq hx'
            · exact nst hx')
        · exact hR7.kpS (Kp.refl.mut (ms := [st]) (by simp)) (fun x hx' => by simp; exact qst x hx')
        · rw [upd_same, Int.toNat_natCast]
          have : (mixM (stsF n log) (n + 1).toNat i j).set j (stAt (s0 n) log (i + 1) (j : Int)) = mixM (stsF n log) (n + 1).toNat i (j + 1) := mixM_set (f := stsF n log) hjn
          rw [this]
      · walk_at "w"
        refine ⟨_, _, _, rfl, k6, hB6, hrp6, ?_, ?_⟩
        · rw [← mixM_same (f := rwsF n log) (j := j)]
          · exact hR6
          · unfold rwsF; rw [rowF, if_pos c]
        · rw [← mixM_same (f := stsF n log) (j := j)]
          · exact hst6
          · exact c
    · clear k05 hB5 hrp5 hR5 hst5
      rintro σ' H6 ⟨z3, z7, z8, rfl, k6, hB6, hrp6, hR6, hst6⟩
      rw [mixM_end] at hR6 hst6
      walk_at "w"
      exact ⟨_, _, _, _, rfl, k6, hB6, hrp6, hR6, hst6⟩
  · clear k03 hB3 hrp3 hR3 hst3
    rintro σ' H4 ⟨z3, z6, z7, z8, rfl, k4, hB4, hrp4, hR4, hst4⟩
    rw [Int.toNat_natCast] at hR4 hst4
    walk_at "w"
    refine w_lcRG1 (n := n + 1) [] (fun D i acc H' => Tps H' acc (lossL n log i)) (by omega) (by omega) (fun D hD => .nil) ?_ ?_
    · intro D i acc H' hD hi hlen' hk hA hT
      have hin : i < (n + 1).toNat := by omega
      have hml := mixM_len (stsF n log) (n + 1).toNat log.length 0
      have hrp5 := hk.at0 hrp4
      have hst5 := hk.at0 hst4
      have hsg : (mixM (stsF n log) (n + 1).toNat log.length 0).getD i default = stAt (s0 n) log log.length (i : Int) := by
        rw [List.getD_eq_getElem?_getD, mixM_get hin, if_neg (by omega)]; rfl
      obtain ⟨y, hy1, hy2⟩ := (hR4.kp0 hk).at (i := i) (by rw [mixM_len]; exact hin)
      have hrg : (mixM (rwsF n log) (n + 1).toNat log.length 0).getD i [] = rowF (s0 n) log (i : Int) log.length := by
        rw [List.getD_eq_getElem?_getD, mixM_get hin, if_neg (by omega)]; rfl
      rw [hrg] at hy2
      walk_at "w"
      refine ⟨rfl, ?_⟩
      walk_at "w"
      rw [Int.toNat_natCast, hsg]
      refine w_ite (fun c => ?_) (fun c => ?_)
      · obtain ⟨c1, c2, c3, c4⟩ := cert_ok n0 n1 hok (g := (i : Int)) (by omega) (by omega) c
        rw [c4] at hy2
        obtain ⟨d1, d2, d3⟩ := cut_two (xs := rowF (s0 n) log (i : Int) (fstF n log (i : Int)).toNat) (x := fstF n log (i : Int)) (y := secF n log (i : Int))
        generalize rowF (s0 n) log (i : Int) (fstF n log (i : Int)).toNat ++ [fstF n log (i : Int), secF n log (i : Int)] = row at hy2 d1 d2 d3
        walk_at "w"
        rw [Int.toNat_natCast, gD_some hy1]
        walk_at "w"
        rw [Int.toNat_natCast, gD_some hy1]
        walk_at "w"
        rw [show ((row.length : Int) + -2).toNat = row.length - 2 by omega, d2]
        rw [show ((row.length : Int) + -1).toNat = row.length - 1 by omega, d3]
        intro T hTn
        have hAT := upd_new (o := .tup [.int (i : Int), .int (fstF n log (i : Int)), .int (secF n log (i : Int))]) hTn hA
        refine w_keepG (hk.new hTn) hAT hlen' (by rw [sizeLine_eq]; omega) hD ?_
        rw [lossL_succ, if_pos c]
        exact Tps.mut (Tps.snoc (hT.new hTn) upd_same) hAT
      · walk_at "w"
        refine w_dropG hk hA hlen' ?_
        rw [lossL_succ, if_neg c, List.append_nil]
        exact hT
    · intro D acc H5 hD hal5 k5 hD5 hT5
      rw [lossL_eq] at hT5
      exact k D acc H5 (k4.free hD) (k4.trans0 k5) hD5 hT5
/-! ### certificates of loss -/
theorem okTo_take {n : Int} {t : St3} {us : List Int} (h : okTo n t us us.length) (c : Nat) : okTo n t (us.take c) (us.take c).length := by
  intro j o hj ho
  rw [List.length_take] at hj
  rw [List.getElem?_take_of_lt (by omega)] at ho
  rw [List.take_take, Nat.min_eq_left (by omega)]
  exact h j o (by omega) ho
theorem cut_front {α : Type} {xs : List α} {i : Int} (i0 : 0 ≤ i) (i1 : i ≤ xs.length) : cut xs none (some i) = xs.take i.toNat := by
  unfold cut HT.sIx
  dsimp only
  rw [if_neg (by omega), List.drop_zero, Nat.sub_zero, Nat.min_eq_left (by omega)]
def sp__certificate (a : AD) : Sp := fun vs H Q E => ∃ (n g : Int) (p : Addr) (log : List Int), vs = [.int n, .ref p, .int g] ∧ H p = some (.lst (log.map V.int)) ∧ log.length ≤ 100000 ∧ 0 ≤ n ∧ n ≤ 60 ∧ okTo n (s0 n) log log.length ∧ g ∈ lostE n log ∧ ∀ t H', H t = none → Kp [] H H' → H' t = some (.tup (certT n log g)) → Q (.ref t) H'
theorem sc__certificate : FnScope ["size", "log", "gap", "second", "first"] ["size", "log", "gap"] (defScope s__certificate) := ⟨rfl, rfl, rfl, by decide +kernel, rfl, by decide +kernel, by decide +kernel⟩
theorem ok__certificate {P : Program} {w : World} {K : PySem.W.Frag} {mg : Str → Option Value} {base : Heap} {a : AD} (T : Txt P K mg a) (G_decided_by : FnA P w K mg base 5 a.f_decided_by ["size", "log", "gap"] (sp_decided_by a)) : FnA P w K mg base 6 a.f__certificate ["size", "log", "gap"] (sp__certificate a) := by
  obtain ⟨fd, F, b⟩ := T.F__certificate
  refine FnA.of F sc__certificate b (fun vs H Q E h => by first | (obtain ⟨rfl, _⟩ := h; rfl) | (obtain ⟨_, rfl, _⟩ := h; rfl) | (obtain ⟨_, _, rfl, _⟩ := h; rfl) | (obtain ⟨_, _, _, rfl, _⟩ := h; rfl) | (obtain ⟨_, _, _, _, rfl, _⟩ := h; rfl) | (obtain ⟨_, _, _, _, _, rfl, _⟩ := h; rfl) | (obtain ⟨_, _, _, _, _, _, rfl, _⟩ := h; rfl) | (obtain ⟨_, _, _, _, _, _, _, rfl, _⟩ := h; rfl) | (obtain ⟨_, _, _, _, _, _, _, _, rfl, _⟩ := h; rfl) | (obtain ⟨_, _, _, _, _, _, _, _, _, rfl, _⟩ := h; rfl) | (obtain ⟨_, _, _, _, _, _, _, _, _, _, rfl, _⟩ := h; rfl) | (obtain ⟨_, _, _, _, _, _, _, _, _, _, _, rfl, _⟩ := h; rfl) | (obtain ⟨_, _, _, _, _, _, _, _, _, _, _, _, rfl, _⟩ := h; rfl) | (obtain ⟨_, _, _, _, _, _, _, _, _, _, _, _, _, rfl, _⟩ := h; rfl) | (obtain ⟨_, _, _, _, _, _, _, _, _, _, _, _, _, _, rfl, _⟩ := h; rfl) | (obtain ⟨_, _, _, _, _, _, _, _, _, _, _, _, _, _, _, rfl, _⟩ := h; rfl) | (obtain ⟨_, _, _, _, _, _, _, _, _, _, _, _, _, _, _, _, rfl, _⟩ := h; rfl) | (obtain ⟨_, _, _, _, _, _, _, _, _, _, _, _, _, _, _, _, _, rfl, _⟩ := h; rfl) | (obtain ⟨_, _, _, _, _, _, _, _, _, _, _, _, _, _, _, _, _, _, rfl, _⟩ := h; rfl) | (obtain ⟨_, _, _, _, _, _, _, _, _, _, _, _, _, _, _, _, _, _, _, rfl, _⟩ := h; rfl) | (obtain ⟨_, _, _, _, _, _, _, _, _, _, _, _, _, _, _, _, _, _, _, _, rfl, _⟩ := h; rfl) | (obtain ⟨_, _, _, _, _, _, _, _, _, _, _, _, _, _, _, _, _, _, _, _, _, rfl, _⟩ := h; rfl) | (obtain ⟨_, _, _, _, _, _, _, _, _, _, _, _, _, _, _, _, _, _, _, _, _, _, rfl, _⟩ := h; rfl) | (obtain ⟨_, _, _, _, _, _, _, _, _, _, _, _, _, _, _, _, _, _, _, _, _, _, _, rfl, _⟩ := h; rfl)) (fun cdv A outer s H vs Q E hr tk pz h => ?_)
  have hu := hr.units
  have hrH := L2H.roomH_of hr
  obtain ⟨n, g, p, log, rfl, hp, hlen, n0, n1, hok, hg, k⟩ := h
  refine ⟨_, (pss_cons (ps_set (i := 3) sc__certificate.nd rfl (Or.inl rfl) (pe_callA G_decided_by (Room.mono hr (by decide)) T.n_decided_by tk (pa_cons (pv 0) (pa_cons (pv 1) (pa_cons (pv 2) pa_nil)))))
      (pss_cons (ps_set (i := 4) sc__certificate.nd rfl (Or.inl rfl) (pe_callA G_decided_by (Room.mono hr (by decide)) T.n_decided_by tk (pa_cons (pv 0) (pa_cons (pe_slice sl_any (pv 1) po_none (po_some (pv 3))) (pa_cons (pv 2) pa_nil)))))
      (pss_one (ps_ret (pe_tup (pa_cons (pv 2) (pa_cons (pv 4) (pa_cons (pv 3) pa_nil)))))))), ?_⟩
  show (_ : Ends → L2.St → Hp → Prop) _ [some _, some _, some _, none, none] _
  try dsimp only [L2H.cxH, cxOf]
  obtain ⟨g0, g1, hl⟩ := lostF_mem.mp hg
  have hl : stAt (s0 n) log log.length g = ("lost" : Str) := by unfold stAt; rw [List.take_length]; exact hl
  obtain ⟨c1, c2, c3, _⟩ := cert_ok n0 n1 hok g0 g1 hl
  walk_at "w"
  refine ⟨n, g, p, log, rfl, hp, hlen, log_ok n0 n1 hok ⟨fun z => absurd ⟨g0, g1⟩ z, fun _ _ H1 k1 => ?_⟩⟩
  have hp1 := k1.at0 hp
  have es : decF (s0 n) log g log.length = secF n log g := rfl
  rw [es]
  walk_at "w"
  rw [cut_front (by omega) (by omega)]
  intro t ht
  have kt := k1.new (o := .lst ((log.take (secF n log g).toNat).map V.int)) ht
  have ht2 : upd H1 t (.lst ((log.take (secF n log g).toNat).map V.int)) t = some (.lst ((log.take (secF n log g).toNat).map V.int)) := upd_same
  generalize upd H1 t (.lst ((log.take (secF n log g).toNat).map V.int)) = H2 at kt ht2 ⊢
  walk_at "w"
  refine ⟨n, g, t, _, rfl, ht2, by rw [List.length_take]; omega, log_ok n0 n1 (okTo_take hok _) ⟨fun z => absurd ⟨g0, g1⟩ z, fun _ _ H3 k3 => ?_⟩⟩
  have ef : decF (s0 n) (log.take (secF n log g).toNat) g (log.take (secF n log g).toNat).length = fstF n log g := by
    rw [List.length_take, Nat.min_eq_left (by omega)]
    exact decF_cut _ _ _ _ (Nat.le_refl _)
  rw [ef]
  walk_at "w"
  intro T hT
  exact k T _ (kt.free (k3.free hT)) ((kt.trans0 k3).new hT) upd_same
def isI : V → Bool
  | .int _ => true
  | _ => false
/-- a member of a value that is judged -/
def ItV (H : Hp) (v : V) : Prop := okV v = true ∨ ∃ (q : Addr) (ws : List V), v = .ref q ∧ H q = some (.tup ws) ∧ ws.all okV = true
theorem ItV.kp0 {H H' : Hp} {v : V} (h : ItV H v) (k : Kp [] H H') : ItV H' v := by
  rcases h with h | ⟨q, ws, e, h, o⟩
  · exact .inl h
  · exact .inr ⟨q, ws, e, k.at0 h, o⟩
theorem DvAll.its {K : PySem.W.Frag} {H : Hp} : ∀ {vs : List V}, (∀ v ∈ vs, ItV H v) → ∃ ds, DvAll K H 8 vs ds ∧ ds.length = vs.length
  | [], _ => ⟨[], .nil, rfl⟩
  | v :: vs, h => by
    obtain ⟨ds, h1, h2⟩ := DvAll.its (K := K) (vs := vs) (fun x hx => h x (List.mem_cons_of_mem _ hx))
    rcases h v List.mem_cons_self with c | ⟨q, ws, rfl, c, o⟩
    · have := DvAll.row (K := K) (H := H) (n := 8) (vs := [v]) (by rw [List.all_cons, c]; rfl)
      obtain ⟨a1, a2, a3⟩ := this
      cases a1 with
      | cons b1 _ => exact ⟨_, .cons ⟨b1, by simp [PyData.canLayAll0] at a2; exact a2, by simp [PyData.depthAll] at a3; exact a3⟩ h1, by simp [h2]⟩
    · exact ⟨_, .cons (DV.tup c (DvAll.row o)) h1, by simp [h2]⟩
inductive JV (H : Hp) : V → Option (Int × Int × Int) → Prop
  | int (k : Int) : JV H (.int k) none
  | str (x : Str) : JV H (.str x) none
  | non : JV H .non none
  | lst {p : Addr} {vs : List V} : H p = some (.lst vs) → vs.all okV = true → JV H (.ref p) none
  | tri {p : Addr} (i j k : Int) : H p = some (.tup [.int i, .int j, .int k]) → JV H (.ref p) (some (i, j, k))
  | tup {p : Addr} {vs : List V} : H p = some (.tup vs) → (∀ v ∈ vs, ItV H v) → (vs.length ≠ 3 ∨ ∃ v ∈ vs, isI v = false) → JV H (.ref p) none
theorem JV.kp0 {H H' : Hp} {v : V} {o : Option (Int × Int × Int)} (h : JV H v o) (k : Kp [] H H') : JV H' v o := by
  cases h with
  | int k => exact .int k
  | str x => exact .str x
  | non => exact .non
  | lst e n => exact .lst (k.at0 e) n
  | tri i j l e => exact .tri i j l (k.at0 e)
  | tup e n m => exact .tup (k.at0 e) (fun v hv => (n v hv).kp0 k) m
def sp__is_integer (a : AD) : Sp := fun vs H Q _ => ∃ v, vs = [v] ∧ ItV H v ∧ Q (.bl (isI v)) H
theorem sc__is_integer : FnScope ["value"] ["value"] (defScope s__is_integer) := ⟨rfl, rfl, rfl, by decide +kernel, rfl, by decide +kernel, by decide +kernel⟩
theorem ok__is_integer {P : Program} {w : World} {K : PySem.W.Frag} {mg : Str → Option Value} {base : Heap} {a : AD} (T : Txt P K mg a) : FnA P w K mg base 2 a.f__is_integer ["value"] (sp__is_integer a) := by
  obtain ⟨fd, F, b⟩ := T.F__is_integer
  refine FnA.of F sc__is_integer b (fun vs H Q E h => by first | (obtain ⟨rfl, _⟩ := h; rfl) | (obtain ⟨_, rfl, _⟩ := h; rfl) | (obtain ⟨_, _, rfl, _⟩ := h; rfl) | (obtain ⟨_, _, _, rfl, _⟩ := h; rfl) | (obtain ⟨_, _, _, _, rfl, _⟩ := h; rfl) | (obtain ⟨_, _, _, _, _, rfl, _⟩ := h; rfl) | (obtain ⟨_, _, _, _, _, _, rfl, _⟩ := h; rfl) | (obtain ⟨_, _, _, _, _, _, _, rfl, _⟩ := h; rfl) | (obtain ⟨_, _, _, _, _, _, _, _, rfl, _⟩ := h; rfl) | (obtain ⟨_, _, _, _, _, _, _, _, _, rfl, _⟩ := h; rfl) | (obtain ⟨_, _, _, _, _, _, _, _, _, _, rfl, _⟩ := h; rfl) | (obtain ⟨_, _, _, _, _, _, _, _, _, _, _, rfl, _⟩ := h; rfl) | (obtain ⟨_, _, _, _, _, _, _, _, _, _, _, _, rfl, _⟩ := h; rfl) | (obtain ⟨_, _, _, _, _, _, _, _, _, _, _, _, _, rfl, _⟩ := h; rfl) | (obtain ⟨_, _, _, _, _, _, _, _, _, _, _, _, _, _, rfl, _⟩ := h; rfl) | (obtain ⟨_, _, _, _, _, _, _, _, _, _, _, _, _, _, _, rfl, _⟩ := h; rfl) | (obtain ⟨_, _, _, _, _, _, _, _, _, _, _, _, _, _, _, _, rfl, _⟩ := h; rfl) | (obtain ⟨_, _, _, _, _, _, _, _, _, _, _, _, _, _, _, _, _, rfl, _⟩ := h; rfl) | (obtain ⟨_, _, _, _, _, _, _, _, _, _, _, _, _, _, _, _, _, _, rfl, _⟩ := h; rfl) | (obtain ⟨_, _, _, _, _, _, _, _, _, _, _, _, _, _, _, _, _, _, _, rfl, _⟩ := h; rfl) | (obtain ⟨_, _, _, _, _, _, _, _, _, _, _, _, _, _, _, _, _, _, _, _, rfl, _⟩ := h; rfl) | (obtain ⟨_, _, _, _, _, _, _, _, _, _, _, _, _, _, _, _, _, _, _, _, _, rfl, _⟩ := h; rfl) | (obtain ⟨_, _, _, _, _, _, _, _, _, _, _, _, _, _, _, _, _, _, _, _, _, _, rfl, _⟩ := h; rfl) | (obtain ⟨_, _, _, _, _, _, _, _, _, _, _, _, _, _, _, _, _, _, _, _, _, _, _, rfl, _⟩ := h; rfl)) (fun cdv A outer s H vs Q E hr tk pz h => ?_)
  have hu := hr.units
  have hrH := L2H.roomH_of hr
  obtain ⟨v, rfl, hv, k⟩ := h
  refine ⟨_, (pss_one (ps_ret (pe_and (pe_callB (call_isi) rfl T.b_isinstance (by decide +kernel) (pa_cons (pv 0) (pa_cons (pe_bltn (v := .ty "int") rfl T.b_int (by decide +kernel) rfl) pa_nil))) (pe_one (pe_not (pe_callB (call_isi) rfl T.b_isinstance (by decide +kernel) (pa_cons (pv 0) (pa_cons (pe_bltn (v := .ty "bool") rfl T.b_bool (by decide +kernel) rfl) pa_nil)))))))), ?_⟩
  show (_ : Ends → L2.St → Hp → Prop) _ [some _] _
  try dsimp only [L2H.cxH, cxOf]
  rcases hv with hv | ⟨q, ws, rfl, hq, _⟩
  · cases v with
    | int i => walk_at "w"; exact k
    | str x => walk_at "w"; exact k
    | bl b => walk_at "w"; exact k
    | non => walk_at "w"; exact k
    | byt b => exact absurd hv Bool.false_ne_true
    | flt b => exact absurd hv Bool.false_ne_true
    | ref p => exact absurd hv Bool.false_ne_true
    | ty t => exact absurd hv Bool.false_ne_true
  · walk_at "w"; exact k
def sp_loss_certificate (a : AD) : Sp := fun vs H Q E => ∃ (n : Int) (p : Addr) (log : List Int), vs = [.int n, .ref p] ∧ H p = some (.lst (log.map V.int)) ∧ log.length ≤ 100000 ∧ logSp a n log H E ((lostE n log = [] → ∀ H', Kp [] H H' → xNotLost a (.int n) E H') ∧ (∀ g rest, lostE n log = g :: rest → ∀ t H', H t = none → Kp [] H H' → H' t = some (.tup (certT n log g)) → Q (.ref t) H'))
theorem sc_loss_certificate : FnScope ["size", "log", "lost"] ["size", "log"] (defScope s_loss_certificate) := ⟨rfl, rfl, rfl, by decide +kernel, rfl, by decide +kernel, by decide +kernel⟩
theorem ok_loss_certificate {P : Program} {w : World} {K : PySem.W.Frag} {mg : Str → Option Value} {base : Heap} {a : AD} (T : Txt P K mg a) (G_lost_gaps : FnA P w K mg base 6 a.f_lost_gaps ["links"] (sp_lost_gaps a)) (G_replay : FnA P w K mg base 5 a.f_replay ["size", "log"] (sp_replay a)) (G__certificate : FnA P w K mg base 6 a.f__certificate ["size", "log", "gap"] (sp__certificate a)) : FnA P w K mg base 7 a.f_loss_certificate ["size", "log"] (sp_loss_certificate a) := by
  obtain ⟨fd, F, b⟩ := T.F_loss_certificate
  refine FnA.of F sc_loss_certificate b (fun vs H Q E h => by first | (obtain ⟨rfl, _⟩ := h; rfl) | (obtain ⟨_, rfl, _⟩ := h; rfl) | (obtain ⟨_, _, rfl, _⟩ := h; rfl) | (obtain ⟨_, _, _, rfl, _⟩ := h; rfl) | (obtain ⟨_, _, _, _, rfl, _⟩ := h; rfl) | (obtain ⟨_, _, _, _, _, rfl, _⟩ := h; rfl) | (obtain ⟨_, _, _, _, _, _, rfl, _⟩ := h; rfl) | (obtain ⟨_, _, _, _, _, _, _, rfl, _⟩ := h; rfl) | (obtain ⟨_, _, _, _, _, _, _, _, rfl, _⟩ := h; rfl) | (obtain ⟨_, _, _, _, _, _, _, _, _, rfl, _⟩ := h; rfl) | (obtain ⟨_, _, _, _, _, _, _, _, _, _, rfl, _⟩ := h; rfl) | (obtain ⟨_, _, _, _, _, _, _, _, _, _, _, rfl, _⟩ := h; rfl) | (obtain ⟨_, _, _, _, _, _, _, _, _, _, _, _, rfl, _⟩ := h; rfl) | (obtain ⟨_, _, _, _, _, _, _, _, _, _, _, _, _, rfl, _⟩ := h; rfl) | (obtain ⟨_, _, _, _, _, _, _, _, _, _, _, _, _, _, rfl, _⟩ := h; rfl) | (obtain ⟨_, _, _, _, _, _, _, _, _, _, _, _, _, _, _, rfl, _⟩ := h; rfl) | (obtain ⟨_, _, _, _, _, _, _, _, _, _, _, _, _, _, _, _, rfl, _⟩ := h; rfl) | (obtain ⟨_, _, _, _, _, _, _, _, _, _, _, _, _, _, _, _, _, rfl, _⟩ := h; rfl) | (obtain ⟨_, _, _, _, _, _, _, _, _, _, _, _, _, _, _, _, _, _, rfl, _⟩ := h; rfl) | (obtain ⟨_, _, _, _, _, _, _, _, _, _, _, _, _, _, _, _, _, _, _, rfl, _⟩ := h; rfl) | (obtain ⟨_, _, _, _, _, _, _, _, _, _, _, _, _, _, _, _, _, _, _, _, rfl, _⟩ := h; rfl) | (obtain ⟨_, _, _, _, _, _, _, _, _, _, _, _, _, _, _, _, _, _, _, _, _, rfl, _⟩ := h; rfl) | (obtain ⟨_, _, _, _, _, _, _, _, _, _, _, _, _, _, _, _, _, _, _, _, _, _, rfl, _⟩ := h; rfl) | (obtain ⟨_, _, _, _, _, _, _, _, _, _, _, _, _, _, _, _, _, _, _, _, _, _, _, rfl, _⟩ := h; rfl)) (fun cdv A outer s H vs Q E hr tk pz h => ?_)
  have hu := hr.units
  have hrH := L2H.roomH_of hr
  obtain ⟨n, p, log, rfl, hp, hlen, hs, h⟩ := h
  refine ⟨_, (pss_cons (ps_set (i := 2) sc_loss_certificate.nd rfl (Or.inl rfl) (pe_callA G_lost_gaps (Room.mono hr (by decide)) T.n_lost_gaps tk (pa_cons (pe_callA G_replay (Room.mono hr (by decide)) T.n_replay tk (pa_cons (pv 0) (pa_cons (pv 1) pa_nil))) pa_nil)))
      (pss_cons (ps_if (pt_not (pt_tru (pv 2))) (pss_one (L2N.ps_raise rfl tk (Lk.pmk_own T.x_NotLost (List.cons_ne_nil _ _) hr T.c_NotLost (by exact (pa_cons (pv 0) pa_nil)) rfl))) pss_nil)
      (pss_one (ps_ret (pe_callA G__certificate (Room.mono hr (by decide)) T.n__certificate tk (pa_cons (pv 0) (pa_cons (pv 1) (pa_cons (pe_ix ix_seq (pv 2) pe_int (fun _ _ => rfl)) pa_nil)))))))), ?_⟩
  show (_ : Ends → L2.St → Hp → Prop) _ [some _, some _, none] _
  try dsimp only [L2H.cxH, cxOf]
  walk_at "w"
  refine ⟨n, p, log, rfl, hp, hlen, hs, fun n0 n1 => ⟨(h n0 n1).1, (h n0 n1).2.1, fun hok x l r f H1 hx hl hr hf hL k1 => ?_⟩⟩
  obtain ⟨hno, k⟩ := (h n0 n1).2.2 hok
  have W := runS_full n0 n1 hok
  walk_at "w"
  refine ⟨x, l, r, f, n, _, _, _, rfl, hL.obj W, fun q H2 hq k2 hq2 => ?_⟩
  rw [lost_app W] at hq2
  have hq2 : H2 q = some (.lst ((lostE n log).map V.int)) := hq2
  have k02 := k1.trans0 k2
  cases e : lostE n log with
  | nil =>
    rw [e] at hq2
    walk_at "w"
    exact ⟨rfl, fun d hd => hno e _ k02 d _ hd upd_same (Kp.refl.new hd)⟩
  | cons g rest =>
    have hg : g ∈ lostE n log := by rw [e]; exact List.mem_cons_self
    rw [e] at hq2
    have hp2 := k02.at0 hp
    walk_at "w"
    refine ⟨n, g, p, log, rfl, hp2, hlen, n0, n1, hok, hg, fun t H3 ht k3 ht3 => ?_⟩
    exact k g rest e t H3 (k02.free ht) (k02.trans0 k3) ht3
def jud (n : Int) (log : List Int) : Option (Int × Int × Int) → Bool
  | none => false
  | some (i, j, k) => decide (i ∈ lostE n log ∧ fstF n log i = j ∧ secF n log i = k)
theorem eqv_int3 {a b c i j k : Int} : PyData.eqv (.tuple [.int a, .int b, .int c]) (.tuple [.int i, .int j, .int k]) = decide (a = i ∧ b = j ∧ c = k) := by
  simp only [PyData.eqv, PyData.eqvAll, Bool.and_true]
  by_cases z1 : a = i <;> by_cases z2 : b = j <;> by_cases z3 : c = k <;> simp [z1, z2, z3]
def sp_is_loss_certificate (a : AD) : Sp := fun vs H Q E => ∃ (n : Int) (p : Addr) (log : List Int) (v : V) (o : Option (Int × Int × Int)), vs = [.int n, .ref p, v] ∧ H p = some (.lst (log.map V.int)) ∧ log.length ≤ 100000 ∧ JV H v o ∧ logSp a n log H E (∀ H', Kp [] H H' → Q (.bl (jud n log o)) H')
theorem sc_is_loss_certificate : FnScope ["size", "log", "value", "lost", "part", "gap"] ["size", "log", "value"] (defScope s_is_loss_certificate) := ⟨rfl, rfl, rfl, by decide +kernel, rfl, by decide +kernel, by decide +kernel⟩
theorem ok_is_loss_certificate {P : Program} {w : World} {K : PySem.W.Frag} {mg : Str → Option Value} {base : Heap} {a : AD} (T : Txt P K mg a) (G_lost_gaps : FnA P w K mg base 6 a.f_lost_gaps ["links"] (sp_lost_gaps a)) (G_replay : FnA P w K mg base 5 a.f_replay ["size", "log"] (sp_replay a)) (G__is_integer : FnA P w K mg base 2 a.f__is_integer ["value"] (sp__is_integer a)) (G__certificate : FnA P w K mg base 6 a.f__certificate ["size", "log", "gap"] (sp__certificate a)) : FnA P w K mg base 7 a.f_is_loss_certificate ["size", "log", "value"] (sp_is_loss_certificate a) := by
  obtain ⟨fd, F, b⟩ := T.F_is_loss_certificate
  refine FnA.of F sc_is_loss_certificate b (fun vs H Q E h => by first | (obtain ⟨rfl, _⟩ := h; rfl) | (obtain ⟨_, rfl, _⟩ := h; rfl) | (obtain ⟨_, _, rfl, _⟩ := h; rfl) | (obtain ⟨_, _, _, rfl, _⟩ := h; rfl) | (obtain ⟨_, _, _, _, rfl, _⟩ := h; rfl) | (obtain ⟨_, _, _, _, _, rfl, _⟩ := h; rfl) | (obtain ⟨_, _, _, _, _, _, rfl, _⟩ := h; rfl) | (obtain ⟨_, _, _, _, _, _, _, rfl, _⟩ := h; rfl) | (obtain ⟨_, _, _, _, _, _, _, _, rfl, _⟩ := h; rfl) | (obtain ⟨_, _, _, _, _, _, _, _, _, rfl, _⟩ := h; rfl) | (obtain ⟨_, _, _, _, _, _, _, _, _, _, rfl, _⟩ := h; rfl) | (obtain ⟨_, _, _, _, _, _, _, _, _, _, _, rfl, _⟩ := h; rfl) | (obtain ⟨_, _, _, _, _, _, _, _, _, _, _, _, rfl, _⟩ := h; rfl) | (obtain ⟨_, _, _, _, _, _, _, _, _, _, _, _, _, rfl, _⟩ := h; rfl) | (obtain ⟨_, _, _, _, _, _, _, _, _, _, _, _, _, _, rfl, _⟩ := h; rfl) | (obtain ⟨_, _, _, _, _, _, _, _, _, _, _, _, _, _, _, rfl, _⟩ := h; rfl) | (obtain ⟨_, _, _, _, _, _, _, _, _, _, _, _, _, _, _, _, rfl, _⟩ := h; rfl) | (obtain ⟨_, _, _, _, _, _, _, _, _, _, _, _, _, _, _, _, _, rfl, _⟩ := h; rfl) | (obtain ⟨_, _, _, _, _, _, _, _, _, _, _, _, _, _, _, _, _, _, rfl, _⟩ := h; rfl) | (obtain ⟨_, _, _, _, _, _, _, _, _, _, _, _, _, _, _, _, _, _, _, rfl, _⟩ := h; rfl) | (obtain ⟨_, _, _, _, _, _, _, _, _, _, _, _, _, _, _, _, _, _, _, _, rfl, _⟩ := h; rfl) | (obtain ⟨_, _, _, _, _, _, _, _, _, _, _, _, _, _, _, _, _, _, _, _, _, rfl, _⟩ := h; rfl) | (obtain ⟨_, _, _, _, _, _, _, _, _, _, _, _, _, _, _, _, _, _, _, _, _, _, rfl, _⟩ := h; rfl) | (obtain ⟨_, _, _, _, _, _, _, _, _, _, _, _, _, _, _, _, _, _, _, _, _, _, _, rfl, _⟩ := h; rfl)) (fun cdv A outer s H vs Q E hr tk pz h => ?_)
  have hu := hr.units
  have hrH := L2H.roomH_of hr
  obtain ⟨n, p, log, v, o, rfl, hp, hlen, hv, hs, h⟩ := h
  refine ⟨_, (pss_cons (ps_set (i := 3) sc_is_loss_certificate.nd rfl (Or.inl rfl) (pe_callA G_lost_gaps (Room.mono hr (by decide)) T.n_lost_gaps tk (pa_cons (pe_callA G_replay (Room.mono hr (by decide)) T.n_replay tk (pa_cons (pv 0) (pa_cons (pv 1) pa_nil))) pa_nil)))
      (pss_cons (ps_if (PW.pt (pw_or (pt_not (pt_tru (pe_callB (call_isi) rfl T.b_isinstance (by decide +kernel) (pa_cons (pv 2) (pa_cons (pe_bltn (v := .ty "tuple") rfl T.b_tuple (by decide +kernel) rfl) pa_nil))))) (pw_or1 (pt_cmpA (o_ne hu) (pe_callB (b_len) rfl T.b_len (by decide +kernel) (pa_cons (pv 2) pa_nil)) pe_int (nomark _))))) (pss_one (ps_ret pe_bl)) pss_nil)
      (pss_cons (ps_if (pt_not (pt_tru (pe_callB (cr_all rfl) rfl T.b_all (by decide +kernel) (pa_cons (pe_lc (own := [("part", 4)]) (g := (gName 4)) (tt := tYes) rfl sc_is_loss_certificate.nd (pi_tup (pv 2)) (blkOk_by (own := [("part", 4)]) (N := ["size", "log", "value", "lost", "part", "gap"]) (sc := defScope s_is_loss_certificate) (by decide +kernel)) (fun _ _ _ _ _ => (pg_name (i := 4) sc_is_loss_certificate.nd rfl (Or.inl rfl))) (fun _ _ _ _ _ => pts_nil) (fun _ _ _ _ _ => (pe_callA G__is_integer (Room.mono hr (by decide)) T.n__is_integer takes0 (pa_cons (pv 4) pa_nil)))) pa_nil)))) (pss_one (ps_ret pe_bl)) pss_nil)
      (pss_cons (ps_set (i := 5) sc_is_loss_certificate.nd rfl (Or.inl rfl) (pe_ix ix_seq (pv 2) pe_int (fun _ _ => rfl)))
      (pss_one (ps_ret (pe_and (pe_cmpR op_in_seq (pv 5) (pv 3) (by rfl)) (pe_one (pe_cmpR (o_eq hu) (pv 2) (pe_callA G__certificate (Room.mono hr (by decide)) T.n__certificate tk (pa_cons (pv 0) (pa_cons (pv 1) (pa_cons (pv 5) pa_nil)))) (nomark _)))))))))), ?_⟩
  show (_ : Ends → L2.St → Hp → Prop) _ [some _, some _, some _, none, none, none] _
  try dsimp only [L2H.cxH, cxOf]
  walk_at "w"
  refine ⟨n, p, log, rfl, hp, hlen, hs, fun n0 n1 => ⟨(h n0 n1).1, (h n0 n1).2.1, fun hok x l r f H1 hx hl hr hf hL k1 => ?_⟩⟩
  have k := (h n0 n1).2.2 hok
  have W := runS_full n0 n1 hok
  walk_at "w"
  refine ⟨x, l, r, f, n, _, _, _, rfl, hL.obj W, fun q H2 hq k2 hq2 => ?_⟩
  rw [lost_app W] at hq2
  have hq2 : H2 q = some (.lst ((lostE n log).map V.int)) := hq2
  have k02 := k1.trans0 k2
  have hp2 := k02.at0 hp
  have hv2 := hv.kp0 k02
  clear hv h hs hL hx
  cases hv2 with
  | int i => walk_at "w"; exact k H2 k02
  | str x => walk_at "w"; exact k H2 k02
  | non => walk_at "w"; exact k H2 k02
  | lst e _ => walk_at "w"; exact k H2 k02
  | tup e hi hn =>
    rename_i t vs
    walk_at "w"
    by_cases c : (vs.length : Int) = 3
    · rw [show decide ((vs.length : Int) = 3) = true by simpa using c]
      walk_at "w"
      refine w_lcT (f' := V.bl) (fun v => some (isI v)) e (by rw [sizeLine_eq]; omega) ?_ ?_
      · intro D j u acc H' hD hu hk hA hlen
        walk_at "w"
        refine ⟨rfl, ?_⟩
        walk_at "w"
        refine ⟨u, rfl, (hi u (List.mem_of_getElem? hu)).kp0 hk, ?_⟩
        exact w_keep hk hA hlen hD rfl
      · intro D H3 hD k3 hA
        rw [fm_some] at hA
        have hall : (vs.map isI).all id = false := by
          rcases hn with hn | ⟨v, hv, e2⟩
          · omega
          · rw [List.all_map, List.all_eq_false]
            exact ⟨v, hv, by simp [e2]⟩
        walk_at "w"
        exact k H3 (k02.trans0 k3)
    · rw [show decide ((vs.length : Int) = 3) = false by simpa using c]
      walk_at "w"
      exact k H2 k02
  | tri i j m e =>
    rename_i t
    walk_at "w"
    refine w_lcT (f' := V.bl) (fun v => some (isI v)) e (by rw [sizeLine_eq]; show 3 < _; decide) ?_ ?_
    · intro D y u acc H' hD hu hk hA hlen
      walk_at "w"
      refine ⟨rfl, ?_⟩
      walk_at "w"
      refine ⟨u, rfl, .inl ?_, ?_⟩
      · have := List.mem_of_getElem? hu
        simp only [List.mem_cons, List.mem_nil_iff, or_false] at this
        rcases this with rfl | rfl | rfl <;> rfl
      · exact w_keep hk hA hlen hD rfl
    · intro D H3 hD k3 hA
      rw [fm_some] at hA
      have k03 := k02.trans0 k3
      have e3 := k3.at0 e
      have hq3 := k3.at0 hq2
      have hp3 := k3.at0 hp2
      walk_at "w"
      by_cases c : i ∈ lostE n log
      · rw [show decide (i ∈ lostE n log) = true by simpa using c]
        walk_at "w"
        refine ⟨n, i, p, log, rfl, hp3, hlen, n0, n1, hok, c, fun t2 H4 ht k4 ht4 => ?_⟩
        refine w_eqV (DV.tup (k4.at0 e3) (DvAll.row (n := 9) rfl)) (DV.tup ht4 (DvAll.row (n := 9) rfl)) ?_
        have e5 : PyData.eqv (.tuple (([.int i, .int j, .int m] : List V).map datV)) (.tuple ((certT n log i).map datV)) = jud n log (some (i, j, m)) := by
          refine (eqv_int3 (a := i) (b := j) (c := m) (i := i) (j := fstF n log i) (k := secF n log i)).trans ?_
          unfold jud
          refine decide_eq_decide.mpr ⟨fun h => ⟨c, h.2.1.symm, h.2.2.symm⟩, fun h => ⟨rfl, h.2.1.symm, h.2.2.symm⟩⟩
        rw [e5]
        exact k H4 (k03.trans0 k4)
      · rw [show decide (i ∈ lostE n log) = false by simpa using c]
        walk_at "w"
        have e5 : jud n log (some (i, j, m)) = false := by
          unfold jud
          simp [c]
        rw [e5] at k
        exact k H3 k03
/-! ### what the law asks -/
def BadIx (n : Int) (log : List Int) (i : Nat) (o : Int) : Prop := log[i]? = some o ∧ okTo n (s0 n) log i ∧ ¬OkAt n (runS (s0 n) (log.take i)) o
theorem badIx_no {n : Int} {log : List Int} {i : Nat} {o : Int} (h : okTo n (s0 n) log log.length) (b : BadIx n log i o) : False :=
  b.2.2 (h i o (List.getElem?_eq_some_iff.mp b.1).1 b.1)
theorem badIx_un {n : Int} {log : List Int} {i j : Nat} {o p : Int} (h1 : BadIx n log i o) (h2 : BadIx n log j p) : i = j ∧ o = p := by
  obtain ⟨a1, b1, c1⟩ := h1
  obtain ⟨a2, b2, c2⟩ := h2
  have e : i = j := by
    rcases Nat.lt_trichotomy i j with h | h | h
    · exact absurd (b2 i o h a1) c1
    · exact h
    · exact absurd (b1 j p h a2) c2
  subst e
  rw [a1] at a2
  cases a2
  exact ⟨rfl, rfl⟩
inductive Tld (n : Int) (log : List Int) : Option (Option (Int × Int × Int)) → Hp → List V → Prop
  | size {md H} : ¬(0 ≤ n ∧ n ≤ 60) → Tld n log md H [.str "size", .int n, .int 0]
  | op {md H} (i : Nat) (o : Int) : 0 ≤ n → n ≤ 60 → BadIx n log i o → ¬IsOp n o → Tld n log md H [.str "operation", .int o, .int (i : Int)]
  | ill {md H} (i : Nat) (o : Int) : 0 ≤ n → n ≤ 60 → BadIx n log i o → IsOp n o → Tld n log md H [.str "illegal", .int o, .int (i : Int)]
  | no {H} : 0 ≤ n → n ≤ 60 → okTo n (s0 n) log log.length → lostE n log = [] → Tld n log none H [.str "none", .int n, .int 0]
  | made {H} {g : Int} {rest : List Int} {t : Addr} : 0 ≤ n → n ≤ 60 → okTo n (s0 n) log log.length → lostE n log = g :: rest → H t = some (.tup (certT n log g)) → Tld n log none H [.str "value", .ref t, .int 0]
  | jud {H} {o : Option (Int × Int × Int)} : 0 ≤ n → n ≤ 60 → okTo n (s0 n) log log.length → Tld n log (some o) H [.str "value", .bl (jud n log o), .int 0]
def sp__law_told (a : AD) : Sp := fun vs H Q _ => ∃ (ms : Str) (n : Int) (p : Addr) (log : List Int) (v : V) (md : Option (Option (Int × Int × Int))), vs = [.str ms, .int n, .ref p, v] ∧ H p = some (.lst (log.map V.int)) ∧ log.length ≤ 100000 ∧ ((ms = "made" ∧ md = none) ∨ (ms = "judged" ∧ ∃ o, md = some o ∧ JV H v o)) ∧ ∀ T row H', H T = none → Kp [] H H' → H' T = some (.tup row) → Tld n log md H' row → Q (.ref T) H'
theorem sc__law_told : FnScope ["_law_asks", "_law_size_here", "_law_moves", "_law_value", "_law_told_here", "fault"] ["_law_asks", "_law_size_here", "_law_moves", "_law_value"] (defScope s__law_told) := ⟨rfl, rfl, rfl, by decide +kernel, rfl, by decide +kernel, by decide +kernel⟩
theorem ok__law_told {P : Program} {w : World} {K : PySem.W.Frag} {mg : Str → Option Value} {base : Heap} {a : AD} (T : Txt P K mg a) (G_loss_certificate : FnA P w K mg base 7 a.f_loss_certificate ["size", "log"] (sp_loss_certificate a)) (G_is_loss_certificate : FnA P w K mg base 7 a.f_is_loss_certificate ["size", "log", "value"] (sp_is_loss_certificate a)) : FnA P w K mg base 8 a.f__law_told ["_law_asks", "_law_size_here", "_law_moves", "_law_value"] (sp__law_told a) := by
  obtain ⟨fd, F, b⟩ := T.F__law_told
  refine FnA.of F sc__law_told b (fun vs H Q E h => by first | (obtain ⟨rfl, _⟩ := h; rfl) | (obtain ⟨_, rfl, _⟩ := h; rfl) | (obtain ⟨_, _, rfl, _⟩ := h; rfl) | (obtain ⟨_, _, _, rfl, _⟩ := h; rfl) | (obtain ⟨_, _, _, _, rfl, _⟩ := h; rfl) | (obtain ⟨_, _, _, _, _, rfl, _⟩ := h; rfl) | (obtain ⟨_, _, _, _, _, _, rfl, _⟩ := h; rfl) | (obtain ⟨_, _, _, _, _, _, _, rfl, _⟩ := h; rfl) | (obtain ⟨_, _, _, _, _, _, _, _, rfl, _⟩ := h; rfl) | (obtain ⟨_, _, _, _, _, _, _, _, _, rfl, _⟩ := h; rfl) | (obtain ⟨_, _, _, _, _, _, _, _, _, _, rfl, _⟩ := h; rfl) | (obtain ⟨_, _, _, _, _, _, _, _, _, _, _, rfl, _⟩ := h; rfl) | (obtain ⟨_, _, _, _, _, _, _, _, _, _, _, _, rfl, _⟩ := h; rfl) | (obtain ⟨_, _, _, _, _, _, _, _, _, _, _, _, _, rfl, _⟩ := h; rfl) | (obtain ⟨_, _, _, _, _, _, _, _, _, _, _, _, _, _, rfl, _⟩ := h; rfl) | (obtain ⟨_, _, _, _, _, _, _, _, _, _, _, _, _, _, _, rfl, _⟩ := h; rfl) | (obtain ⟨_, _, _, _, _, _, _, _, _, _, _, _, _, _, _, _, rfl, _⟩ := h; rfl) | (obtain ⟨_, _, _, _, _, _, _, _, _, _, _, _, _, _, _, _, _, rfl, _⟩ := h; rfl) | (obtain ⟨_, _, _, _, _, _, _, _, _, _, _, _, _, _, _, _, _, _, rfl, _⟩ := h; rfl) | (obtain ⟨_, _, _, _, _, _, _, _, _, _, _, _, _, _, _, _, _, _, _, rfl, _⟩ := h; rfl) | (obtain ⟨_, _, _, _, _, _, _, _, _, _, _, _, _, _, _, _, _, _, _, _, rfl, _⟩ := h; rfl) | (obtain ⟨_, _, _, _, _, _, _, _, _, _, _, _, _, _, _, _, _, _, _, _, _, rfl, _⟩ := h; rfl) | (obtain ⟨_, _, _, _, _, _, _, _, _, _, _, _, _, _, _, _, _, _, _, _, _, _, rfl, _⟩ := h; rfl) | (obtain ⟨_, _, _, _, _, _, _, _, _, _, _, _, _, _, _, _, _, _, _, _, _, _, _, rfl, _⟩ := h; rfl)) (fun cdv A outer s H vs Q E hr tk pz h => ?_)
  have hu := hr.units
  have hrH := L2H.roomH_of hr
  obtain ⟨ms, n, p, log, v, md, rfl, hp, hlen, hm, k⟩ := h
  refine ⟨_, (pss_cons (L2N.ps_try_as (i := 5) (tb := fun W => (tIfS (cB (tOp (aEq K) (tVar 0) (tC (.str "made")))) (tAsg (tCallS (sp_loss_certificate a) (WE W) (tCons (tVar 1) (tCons (tVar 2) tNil))) (gName 4)) (tAsg (tCallS (sp_is_loss_certificate a) (WE W) (tCons (tVar 1) (tCons (tVar 2) (tCons (tVar 3) tNil)))) (gName 4)))) (ts := fun ea cls d => (tSeq (tIfS (tNot (cTru K (tCB (rIsG K ea cls d) (tCons (tVar 5) (tCons (tC (.ty "ValueError")) tNil))))) (tRet (tTup (tCons (tC (.str "other")) (tCons (tC (.int 0)) (tCons (tC (.int 0)) tNil))))) tNext) (tSeq (tIfS (cTru K (tCB (rIsG K ea cls d) (tCons (tVar 5) (tCons (tC (.ref a.LogError)) tNil)))) (tSeq (tIfS (tAnd (cTru K (tCB (rIsG K ea cls d) (tCons (tVar 5) (tCons (tC (.ref a.BadOperation)) tNil)))) (tNot (cTru K (tCB (rIsG K ea cls d) (tCons (tVar 5) (tCons (tC (.ref a.Illegal)) tNil)))))) (tRet (tTup (tCons (tC (.str "operation")) (tCons (tXfG K ea cls d "operation" (tVar 5)) (tCons (tXfG K ea cls d "index" (tVar 5)) tNil))))) tNext) (tSeq (tIfS (tAnd (cTru K (tCB (rIsG K ea cls d) (tCons (tVar 5) (tCons (tC (.ref a.Illegal)) tNil)))) (tNot (cTru K (tCB (rIsG K ea cls d) (tCons (tVar 5) (tCons (tC (.ref a.BadOperation)) tNil)))))) (tRet (tTup (tCons (tC (.str "illegal")) (tCons (tXfG K ea cls d "operation" (tVar 5)) (tCons (tXfG K ea cls d "index" (tVar 5)) tNil))))) tNext) (tRet (tTup (tCons (tC (.str "other")) (tCons (tC (.int 0)) (tCons (tC (.int 0)) tNil))))))) tNext) (tSeq (tIfS (cTru K (tCB (rIsG K ea cls d) (tCons (tVar 5) (tCons (tC (.ref a.NotLost)) tNil)))) (tRet (tTup (tCons (tC (.str "none")) (tCons (tXfG K ea cls d "size" (tVar 5)) (tCons (tC (.int 0)) tNil))))) tNext) (tSeq (tIfS (cTru K (tCB (rIsG K ea cls d) (tCons (tVar 5) (tCons (tC (.ref a.BadSize)) tNil)))) (tRet (tTup (tCons (tC (.str "size")) (tCons (tXfG K ea cls d "size" (tVar 5)) (tCons (tC (.int 0)) tNil))))) tNext) (tRet (tTup (tCons (tC (.str "other")) (tCons (tC (.int 0)) (tCons (tC (.int 0)) tNil)))))))))) rfl rfl sc__law_told.nd rfl rfl ⟨rfl, by decide, Or.inl T.c_LinkError⟩ tk
      (fun W pn xe tk2 pz => (pss_one (ps_if (pt_cmpA (o_eq hu) (pv 0) pe_str (nomark _)) (pss_one (ps_set (i := 4) sc__law_told.nd rfl (Or.inl rfl) (pe_callA G_loss_certificate (Room.mono hr (by decide)) T.n_loss_certificate tk2 (pa_cons (pv 1) (pa_cons (pv 2) pa_nil))))) (pss_one (ps_set (i := 4) sc__law_told.nd rfl (Or.inl rfl) (pe_callA G_is_loss_certificate (Room.mono hr (by decide)) T.n_is_loss_certificate tk2 (pa_cons (pv 1) (pa_cons (pv 2) (pa_cons (pv 3) pa_nil)))))))))
      (fun ea oe cls d pn hz hf => (pss_cons (ps_if (pt_not (pt_tru (pe_callB (by exact call_isG (L2N.Zn.zc hz) hf) rfl T.b_isinstance (by decide +kernel) (pa_cons (pv 5) (pa_cons (pe_bltn (v := .ty "ValueError") rfl T.b_ValueError (by decide +kernel) rfl) pa_nil))))) (pss_one (ps_ret (pe_tup (pa_cons pe_str (pa_cons pe_int (pa_cons pe_int pa_nil)))))) pss_nil)
      (pss_cons (ps_if (pt_tru (pe_callB (by exact call_isG (L2N.Zn.zc hz) hf) rfl T.b_isinstance (by decide +kernel) (pa_cons (pv 5) (pa_cons (pe_glob (v := .ref a.LogError) rfl T.c_LogError rfl) pa_nil)))) (pss_cons (ps_if (PW.pt (pw_and (pt_tru (pe_callB (by exact call_isG (L2N.Zn.zc hz) hf) rfl T.b_isinstance (by decide +kernel) (pa_cons (pv 5) (pa_cons (pe_glob (v := .ref a.BadOperation) rfl T.c_BadOperation rfl) pa_nil)))) (pw_and1 (pt_not (pt_tru (pe_callB (by exact call_isG (L2N.Zn.zc hz) hf) rfl T.b_isinstance (by decide +kernel) (pa_cons (pv 5) (pa_cons (pe_glob (v := .ref a.Illegal) rfl T.c_Illegal rfl) pa_nil)))))))) (pss_one (ps_ret (pe_tup (pa_cons pe_str (pa_cons (by exact pe_xfG (L2N.Zn.zc hz) hf (pv 5)) (pa_cons (by exact pe_xfG (L2N.Zn.zc hz) hf (pv 5)) pa_nil)))))) pss_nil)
      (pss_cons (ps_if (PW.pt (pw_and (pt_tru (pe_callB (by exact call_isG (L2N.Zn.zc hz) hf) rfl T.b_isinstance (by decide +kernel) (pa_cons (pv 5) (pa_cons (pe_glob (v := .ref a.Illegal) rfl T.c_Illegal rfl) pa_nil)))) (pw_and1 (pt_not (pt_tru (pe_callB (by exact call_isG (L2N.Zn.zc hz) hf) rfl T.b_isinstance (by decide +kernel) (pa_cons (pv 5) (pa_cons (pe_glob (v := .ref a.BadOperation) rfl T.c_BadOperation rfl) pa_nil)))))))) (pss_one (ps_ret (pe_tup (pa_cons pe_str (pa_cons (by exact pe_xfG (L2N.Zn.zc hz) hf (pv 5)) (pa_cons (by exact pe_xfG (L2N.Zn.zc hz) hf (pv 5)) pa_nil)))))) pss_nil)
      (pss_one (ps_ret (pe_tup (pa_cons pe_str (pa_cons pe_int (pa_cons pe_int pa_nil)))))))) pss_nil)
      (pss_cons (ps_if (pt_tru (pe_callB (by exact call_isG (L2N.Zn.zc hz) hf) rfl T.b_isinstance (by decide +kernel) (pa_cons (pv 5) (pa_cons (pe_glob (v := .ref a.NotLost) rfl T.c_NotLost rfl) pa_nil)))) (pss_one (ps_ret (pe_tup (pa_cons pe_str (pa_cons (by exact pe_xfG (L2N.Zn.zc hz) hf (pv 5)) (pa_cons pe_int pa_nil)))))) pss_nil)
      (pss_cons (ps_if (pt_tru (pe_callB (by exact call_isG (L2N.Zn.zc hz) hf) rfl T.b_isinstance (by decide +kernel) (pa_cons (pv 5) (pa_cons (pe_glob (v := .ref a.BadSize) rfl T.c_BadSize rfl) pa_nil)))) (pss_one (ps_ret (pe_tup (pa_cons pe_str (pa_cons (by exact pe_xfG (L2N.Zn.zc hz) hf (pv 5)) (pa_cons pe_int pa_nil)))))) pss_nil)
      (pss_one (ps_ret (pe_tup (pa_cons pe_str (pa_cons pe_int (pa_cons pe_int pa_nil))))))))))))
      (pss_one (ps_ret (pe_tup (pa_cons pe_str (pa_cons (pv 4) (pa_cons pe_int pa_nil))))))), ?_⟩
  show (_ : Ends → L2.St → Hp → Prop) _ [some _, some _, some _, some _, none, none] _
  try dsimp only [L2H.cxH, cxOf]
  -- the three errors of a log
  have bs : ∀ (E : XK), (¬(0 ≤ n ∧ n ≤ 60) → xBadSize a (.int n) E H) → True := fun _ _ => trivial
  rcases hm with ⟨rfl, rfl⟩ | ⟨rfl, o, rfl, hv⟩
  · walk_at "w"
    refine ⟨n, p, log, rfl, hp, hlen, fun z d H2 hd hd2 k2 => ?_, fun n0 n1 => ⟨fun i u hu hok hop d H2 hd hd2 k2 => ?_, fun i u hu hok hop hfl d H2 hd hd2 k2 => ?_, fun hok => ⟨fun e H1 k1 d H2 hd hd2 k2 => ?_, fun g rest e t H2 ht k2 ht2 => ?_⟩⟩⟩
    · refine w_asT T.t_BadSize_LinkError.2 (fun y hy => ?_)
      walk_at "w"
      intro T hT
      exact k T _ _ (k2.free hT) (k2.new hT) upd_same (.size z)
    · refine w_asT T.t_BadOperation_LinkError.2 (fun y hy => ?_)
      walk_at "w"
      intro T hT
      exact k T _ _ (k2.free hT) (k2.new hT) upd_same (.op i u n0 n1 ⟨hu, hok, fun z => hop z.1⟩ hop)
    · refine w_asT T.t_Illegal_LinkError.2 (fun y hy => ?_)
      walk_at "w"
      intro T hT
      exact k T _ _ (k2.free hT) (k2.new hT) upd_same (.ill i u n0 n1 ⟨hu, hok, fun z => z.2 hfl⟩ hop)
    · refine w_asT T.t_NotLost_LinkError.2 (fun y hy => ?_)
      walk_at "w"
      intro T hT
      exact k T _ _ (k1.free (k2.free hT)) ((k1.trans0 k2).new hT) upd_same (.no n0 n1 hok e)
    · walk_at "w"
      intro T hT
      exact k T _ _ (k2.free hT) (k2.new hT) upd_same (.made n0 n1 hok e (upd_new hT ht2))
  · walk_at "w"
    refine ⟨n, p, log, v, o, rfl, hp, hlen, hv, fun z d H2 hd hd2 k2 => ?_, fun n0 n1 => ⟨fun i u hu hok hop d H2 hd hd2 k2 => ?_, fun i u hu hok hop hfl d H2 hd hd2 k2 => ?_, fun hok H2 k2 => ?_⟩⟩
    · refine w_asT T.t_BadSize_LinkError.2 (fun y hy => ?_)
      walk_at "w"
      intro T hT
      exact k T _ _ (k2.free hT) (k2.new hT) upd_same (.size z)
    · refine w_asT T.t_BadOperation_LinkError.2 (fun y hy => ?_)
      walk_at "w"
      intro T hT
      exact k T _ _ (k2.free hT) (k2.new hT) upd_same (.op i u n0 n1 ⟨hu, hok, fun z => hop z.1⟩ hop)
    · refine w_asT T.t_Illegal_LinkError.2 (fun y hy => ?_)
      walk_at "w"
      intro T hT
      exact k T _ _ (k2.free hT) (k2.new hT) upd_same (.ill i u n0 n1 ⟨hu, hok, fun z => z.2 hfl⟩ hop)
    · walk_at "w"
      intro T hT
      exact k T _ _ (k2.free hT) (k2.new hT) upd_same (.jud n0 n1 hok)
def sp__law_number (a : AD) : Sp := fun vs H Q _ => ∃ v, vs = [v] ∧ ItV H v ∧ Q (.bl (isI v)) H
theorem sc__law_number : FnScope ["_law_told_here"] ["_law_told_here"] (defScope s__law_number) := ⟨rfl, rfl, rfl, by decide +kernel, rfl, by decide +kernel, by decide +kernel⟩
theorem ok__law_number {P : Program} {w : World} {K : PySem.W.Frag} {mg : Str → Option Value} {base : Heap} {a : AD} (T : Txt P K mg a) : FnA P w K mg base 2 a.f__law_number ["_law_told_here"] (sp__law_number a) := by
  obtain ⟨fd, F, b⟩ := T.F__law_number
  refine FnA.of F sc__law_number b (fun vs H Q E h => by first | (obtain ⟨rfl, _⟩ := h; rfl) | (obtain ⟨_, rfl, _⟩ := h; rfl) | (obtain ⟨_, _, rfl, _⟩ := h; rfl) | (obtain ⟨_, _, _, rfl, _⟩ := h; rfl) | (obtain ⟨_, _, _, _, rfl, _⟩ := h; rfl) | (obtain ⟨_, _, _, _, _, rfl, _⟩ := h; rfl) | (obtain ⟨_, _, _, _, _, _, rfl, _⟩ := h; rfl) | (obtain ⟨_, _, _, _, _, _, _, rfl, _⟩ := h; rfl) | (obtain ⟨_, _, _, _, _, _, _, _, rfl, _⟩ := h; rfl) | (obtain ⟨_, _, _, _, _, _, _, _, _, rfl, _⟩ := h; rfl) | (obtain ⟨_, _, _, _, _, _, _, _, _, _, rfl, _⟩ := h; rfl) | (obtain ⟨_, _, _, _, _, _, _, _, _, _, _, rfl, _⟩ := h; rfl) | (obtain ⟨_, _, _, _, _, _, _, _, _, _, _, _, rfl, _⟩ := h; rfl) | (obtain ⟨_, _, _, _, _, _, _, _, _, _, _, _, _, rfl, _⟩ := h; rfl) | (obtain ⟨_, _, _, _, _, _, _, _, _, _, _, _, _, _, rfl, _⟩ := h; rfl) | (obtain ⟨_, _, _, _, _, _, _, _, _, _, _, _, _, _, _, rfl, _⟩ := h; rfl) | (obtain ⟨_, _, _, _, _, _, _, _, _, _, _, _, _, _, _, _, rfl, _⟩ := h; rfl) | (obtain ⟨_, _, _, _, _, _, _, _, _, _, _, _, _, _, _, _, _, rfl, _⟩ := h; rfl) | (obtain ⟨_, _, _, _, _, _, _, _, _, _, _, _, _, _, _, _, _, _, rfl, _⟩ := h; rfl) | (obtain ⟨_, _, _, _, _, _, _, _, _, _, _, _, _, _, _, _, _, _, _, rfl, _⟩ := h; rfl) | (obtain ⟨_, _, _, _, _, _, _, _, _, _, _, _, _, _, _, _, _, _, _, _, rfl, _⟩ := h; rfl) | (obtain ⟨_, _, _, _, _, _, _, _, _, _, _, _, _, _, _, _, _, _, _, _, _, rfl, _⟩ := h; rfl) | (obtain ⟨_, _, _, _, _, _, _, _, _, _, _, _, _, _, _, _, _, _, _, _, _, _, rfl, _⟩ := h; rfl) | (obtain ⟨_, _, _, _, _, _, _, _, _, _, _, _, _, _, _, _, _, _, _, _, _, _, _, rfl, _⟩ := h; rfl)) (fun cdv A outer s H vs Q E hr tk pz h => ?_)
  have hu := hr.units
  have hrH := L2H.roomH_of hr
  obtain ⟨v, rfl, hv, k⟩ := h
  refine ⟨_, (pss_one (ps_ret (pe_and (pe_callB (call_isi) rfl T.b_isinstance (by decide +kernel) (pa_cons (pv 0) (pa_cons (pe_bltn (v := .ty "int") rfl T.b_int (by decide +kernel) rfl) pa_nil))) (pe_one (pe_not (pe_callB (call_isi) rfl T.b_isinstance (by decide +kernel) (pa_cons (pv 0) (pa_cons (pe_bltn (v := .ty "bool") rfl T.b_bool (by decide +kernel) rfl) pa_nil)))))))), ?_⟩
  show (_ : Ends → L2.St → Hp → Prop) _ [some _] _
  try dsimp only [L2H.cxH, cxOf]
  rcases hv with hv | ⟨q, ws, rfl, hq, _⟩
  · cases v with
    | int i => walk_at "w"; exact k
    | str x => walk_at "w"; exact k
    | bl b => walk_at "w"; exact k
    | non => walk_at "w"; exact k
    | byt b => exact absurd hv Bool.false_ne_true
    | flt b => exact absurd hv Bool.false_ne_true
    | ref p => exact absurd hv Bool.false_ne_true
    | ty t => exact absurd hv Bool.false_ne_true
  · walk_at "w"; exact k
def sp__law_fits (a : AD) : Sp := fun vs H Q _ => ∃ (tp : Addr) (x : Str) (i j : Int), vs = [.ref tp, .str x, .int i, .int j] ∧ H tp = some (.tup [.str x, .int i, .int j]) ∧ Q (.bl true) H
theorem sc__law_fits : FnScope ["_law_told_here", "_law_word", "_law_first", "_law_second"] ["_law_told_here", "_law_word", "_law_first", "_law_second"] (defScope s__law_fits) := ⟨rfl, rfl, rfl, by decide +kernel, rfl, by decide +kernel, by decide +kernel⟩
theorem ok__law_fits {P : Program} {w : World} {K : PySem.W.Frag} {mg : Str → Option Value} {base : Heap} {a : AD} (T : Txt P K mg a) (G__law_number : FnA P w K mg base 2 a.f__law_number ["_law_told_here"] (sp__law_number a)) : FnA P w K mg base 3 a.f__law_fits ["_law_told_here", "_law_word", "_law_first", "_law_second"] (sp__law_fits a) := by
  obtain ⟨fd, F, b⟩ := T.F__law_fits
  refine FnA.of F sc__law_fits b (fun vs H Q E h => by first | (obtain ⟨rfl, _⟩ := h; rfl) | (obtain ⟨_, rfl, _⟩ := h; rfl) | (obtain ⟨_, _, rfl, _⟩ := h; rfl) | (obtain ⟨_, _, _, rfl, _⟩ := h; rfl) | (obtain ⟨_, _, _, _, rfl, _⟩ := h; rfl) | (obtain ⟨_, _, _, _, _, rfl, _⟩ := h; rfl) | (obtain ⟨_, _, _, _, _, _, rfl, _⟩ := h; rfl) | (obtain ⟨_, _, _, _, _, _, _, rfl, _⟩ := h; rfl) | (obtain ⟨_, _, _, _, _, _, _, _, rfl, _⟩ := h; rfl) | (obtain ⟨_, _, _, _, _, _, _, _, _, rfl, _⟩ := h; rfl) | (obtain ⟨_, _, _, _, _, _, _, _, _, _, rfl, _⟩ := h; rfl) | (obtain ⟨_, _, _, _, _, _, _, _, _, _, _, rfl, _⟩ := h; rfl) | (obtain ⟨_, _, _, _, _, _, _, _, _, _, _, _, rfl, _⟩ := h; rfl) | (obtain ⟨_, _, _, _, _, _, _, _, _, _, _, _, _, rfl, _⟩ := h; rfl) | (obtain ⟨_, _, _, _, _, _, _, _, _, _, _, _, _, _, rfl, _⟩ := h; rfl) | (obtain ⟨_, _, _, _, _, _, _, _, _, _, _, _, _, _, _, rfl, _⟩ := h; rfl) | (obtain ⟨_, _, _, _, _, _, _, _, _, _, _, _, _, _, _, _, rfl, _⟩ := h; rfl) | (obtain ⟨_, _, _, _, _, _, _, _, _, _, _, _, _, _, _, _, _, rfl, _⟩ := h; rfl) | (obtain ⟨_, _, _, _, _, _, _, _, _, _, _, _, _, _, _, _, _, _, rfl, _⟩ := h; rfl) | (obtain ⟨_, _, _, _, _, _, _, _, _, _, _, _, _, _, _, _, _, _, _, rfl, _⟩ := h; rfl) | (obtain ⟨_, _, _, _, _, _, _, _, _, _, _, _, _, _, _, _, _, _, _, _, rfl, _⟩ := h; rfl) | (obtain ⟨_, _, _, _, _, _, _, _, _, _, _, _, _, _, _, _, _, _, _, _, _, rfl, _⟩ := h; rfl) | (obtain ⟨_, _, _, _, _, _, _, _, _, _, _, _, _, _, _, _, _, _, _, _, _, _, rfl, _⟩ := h; rfl) | (obtain ⟨_, _, _, _, _, _, _, _, _, _, _, _, _, _, _, _, _, _, _, _, _, _, _, rfl, _⟩ := h; rfl)) (fun cdv A outer s H vs Q E hr tk pz h => ?_)
  have hu := hr.units
  have hrH := L2H.roomH_of hr
  obtain ⟨tp, x, i, j, rfl, hT, k⟩ := h
  refine ⟨_, (pss_cons (ps_if (PW.pt (pw_or (pt_cmpA (o_ne hu) (pe_ix ix_seq (pv 0) pe_int (fun _ _ => rfl)) (pv 1) (nomark _)) (pw_or (pt_not (pt_tru (pe_callA G__law_number (Room.mono hr (by decide)) T.n__law_number tk (pa_cons (pe_ix ix_seq (pv 0) pe_int (fun _ _ => rfl)) pa_nil)))) (pw_or1 (pt_not (pt_tru (pe_callA G__law_number (Room.mono hr (by decide)) T.n__law_number tk (pa_cons (pe_ix ix_seq (pv 0) pe_int (fun _ _ => rfl)) pa_nil)))))))) (pss_one (ps_ret pe_bl)) pss_nil)
      (pss_one (ps_ret (pe_and (pe_cmpR (o_eq hu) (pe_ix ix_seq (pv 0) pe_int (fun _ _ => rfl)) (pv 2) (nomark _)) (pe_one (pe_cmpR (o_eq hu) (pe_ix ix_seq (pv 0) pe_int (fun _ _ => rfl)) (pv 3) (nomark _))))))), ?_⟩
  show (_ : Ends → L2.St → Hp → Prop) _ [some _, some _, some _, some _] _
  try dsimp only [L2H.cxH, cxOf]
  walk_at "w"
  refine ⟨_, rfl, .inl rfl, ?_⟩
  walk_at "w"
  refine ⟨_, rfl, .inl rfl, ?_⟩
  walk_at "w"
  have e : decide (j = j) = true := by simp
  rw [e]
  exact k
def sp__law_is_triple (a : AD) : Sp := fun vs H Q _ => ∃ (v : V) (o : Option (Int × Int × Int)), vs = [v] ∧ JV H v o ∧ ∀ H', Kp [] H H' → Q (.bl o.isSome) H'
theorem sc__law_is_triple : FnScope ["_law_value", "_law_one"] ["_law_value"] (defScope s__law_is_triple) := ⟨rfl, rfl, rfl, by decide +kernel, rfl, by decide +kernel, by decide +kernel⟩
theorem ok__law_is_triple {P : Program} {w : World} {K : PySem.W.Frag} {mg : Str → Option Value} {base : Heap} {a : AD} (T : Txt P K mg a) (G__law_number : FnA P w K mg base 2 a.f__law_number ["_law_told_here"] (sp__law_number a)) : FnA P w K mg base 3 a.f__law_is_triple ["_law_value"] (sp__law_is_triple a) := by
  obtain ⟨fd, F, b⟩ := T.F__law_is_triple
  refine FnA.of F sc__law_is_triple b (fun vs H Q E h => by first | (obtain ⟨rfl, _⟩ := h; rfl) | (obtain ⟨_, rfl, _⟩ := h; rfl) | (obtain ⟨_, _, rfl, _⟩ := h; rfl) | (obtain ⟨_, _, _, rfl, _⟩ := h; rfl) | (obtain ⟨_, _, _, _, rfl, _⟩ := h; rfl) | (obtain ⟨_, _, _, _, _, rfl, _⟩ := h; rfl) | (obtain ⟨_, _, _, _, _, _, rfl, _⟩ := h; rfl) | (obtain ⟨_, _, _, _, _, _, _, rfl, _⟩ := h; rfl) | (obtain ⟨_, _, _, _, _, _, _, _, rfl, _⟩ := h; rfl) | (obtain ⟨_, _, _, _, _, _, _, _, _, rfl, _⟩ := h; rfl) | (obtain ⟨_, _, _, _, _, _, _, _, _, _, rfl, _⟩ := h; rfl) | (obtain ⟨_, _, _, _, _, _, _, _, _, _, _, rfl, _⟩ := h; rfl) | (obtain ⟨_, _, _, _, _, _, _, _, _, _, _, _, rfl, _⟩ := h; rfl) | (obtain ⟨_, _, _, _, _, _, _, _, _, _, _, _, _, rfl, _⟩ := h; rfl) | (obtain ⟨_, _, _, _, _, _, _, _, _, _, _, _, _, _, rfl, _⟩ := h; rfl) | (obtain ⟨_, _, _, _, _, _, _, _, _, _, _, _, _, _, _, rfl, _⟩ := h; rfl) | (obtain ⟨_, _, _, _, _, _, _, _, _, _, _, _, _, _, _, _, rfl, _⟩ := h; rfl) | (obtain ⟨_, _, _, _, _, _, _, _, _, _, _, _, _, _, _, _, _, rfl, _⟩ := h; rfl) | (obtain ⟨_, _, _, _, _, _, _, _, _, _, _, _, _, _, _, _, _, _, rfl, _⟩ := h; rfl) | (obtain ⟨_, _, _, _, _, _, _, _, _, _, _, _, _, _, _, _, _, _, _, rfl, _⟩ := h; rfl) | (obtain ⟨_, _, _, _, _, _, _, _, _, _, _, _, _, _, _, _, _, _, _, _, rfl, _⟩ := h; rfl) | (obtain ⟨_, _, _, _, _, _, _, _, _, _, _, _, _, _, _, _, _, _, _, _, _, rfl, _⟩ := h; rfl) | (obtain ⟨_, _, _, _, _, _, _, _, _, _, _, _, _, _, _, _, _, _, _, _, _, _, rfl, _⟩ := h; rfl) | (obtain ⟨_, _, _, _, _, _, _, _, _, _, _, _, _, _, _, _, _, _, _, _, _, _, _, rfl, _⟩ := h; rfl)) (fun cdv A outer s H vs Q E hr tk pz h => ?_)
  have hu := hr.units
  have hrH := L2H.roomH_of hr
  obtain ⟨v, o, rfl, hv, k⟩ := h
  refine ⟨_, (pss_cons (ps_if (PW.pt (pw_or (pt_not (pt_tru (pe_callB (call_isi) rfl T.b_isinstance (by decide +kernel) (pa_cons (pv 0) (pa_cons (pe_bltn (v := .ty "tuple") rfl T.b_tuple (by decide +kernel) rfl) pa_nil))))) (pw_or1 (pt_cmpA (o_ne hu) (pe_callB (b_len) rfl T.b_len (by decide +kernel) (pa_cons (pv 0) pa_nil)) pe_int (nomark _))))) (pss_one (ps_ret pe_bl)) pss_nil)
      (pss_one (ps_ret (pe_cmpR (o_eq hu) (pe_lc (own := [("_law_one", 1)]) (g := (gName 1)) rfl sc__law_is_triple.nd (pi_tup (pv 0)) (blkOk_by (own := [("_law_one", 1)]) (N := ["_law_value", "_law_one"]) (sc := defScope s__law_is_triple) (by decide +kernel)) (fun _ _ _ _ _ => (pg_name (i := 1) sc__law_is_triple.nd rfl (Or.inl rfl))) (fun _ _ _ _ _ => (pts_one (pt_not (show PT _ _ (cTru K _) from (pt_tru (pe_callA G__law_number (Room.mono hr (by decide)) T.n__law_number takes0 (pa_cons (pv 1) pa_nil))))))) (fun _ _ _ _ _ => (pv 1))) (pe_lst pa_nil) (nomark _))))), ?_⟩
  show (_ : Ends → L2.St → Hp → Prop) _ [some _, none] _
  try dsimp only [L2H.cxH, cxOf]
  -- what the filtered list is compared with
  cases hv with
  | int i => walk_at "w"; exact k H Kp.refl
  | str x => walk_at "w"; exact k H Kp.refl
  | non => walk_at "w"; exact k H Kp.refl
  | lst e _ => walk_at "w"; exact k H Kp.refl
  | tup e hi hn =>
    rename_i t vs
    walk_at "w"
    by_cases c : (vs.length : Int) = 3
    · rw [show decide ((vs.length : Int) = 3) = true by simpa using c]
      walk_at "w"
      refine w_lcT (f' := fun v => v) (fun v => if isI v = true then none else some v) e (by rw [sizeLine_eq]; omega) ?_ ?_
      · intro D j u acc H' hD hu hk hA hlen
        walk_at "w"
        refine ⟨rfl, ?_⟩
        walk_at "w"
        refine ⟨u, rfl, (hi u (List.mem_of_getElem? hu)).kp0 hk, ?_⟩
        cases c2 : isI u with
        | true =>
          walk_at "w"
          exact w_drop hk hA (by simp [c2])
        | false =>
          walk_at "w"
          exact w_keep hk hA hlen hD (by simp [c2])
      · intro D H3 hD k3 hA
        rw [List.map_id'] at hA
        walk_at "w"
        intro q hq
        have hne : vs.filterMap (fun v => if isI v = true then none else some v) ≠ [] := by
          rcases hn with hn | ⟨v, hv, e2⟩
          · omega
          · intro z
            rw [List.filterMap_eq_nil_iff] at z
            have := z v hv
            rw [e2] at this
            cases this
        have hits : ∀ v ∈ vs.filterMap (fun v => if isI v = true then none else some v), ItV (upd H3 q (.lst [])) v := by
          intro v hv
          obtain ⟨y, hy, e2⟩ := List.mem_filterMap.mp hv
          split at e2
          · cases e2
          · cases e2
            exact (hi v hy).kp0 (k3.new hq)
        generalize vs.filterMap (fun v => if isI v = true then none else some v) = ws at hA hne hits
        obtain ⟨ds, hd1, hd2⟩ := DvAll.its (K := K) hits
        refine w_eqV (DV.lst (upd_new hq hA) (n := 8) hd1 |> fun h => ⟨h.1, h.2.1, by have := h.2.2; omega⟩) (DV.lst (n := 9) upd_same .nil) ?_
        have e3 : PyData.eqv (.list ds) (.list []) = false := by
          rw [PyData.eqv]
          exact eqvAll_len (by rw [hd2]; simpa using hne)
        rw [e3]
        exact k _ (k3.new hq)
    · rw [show decide ((vs.length : Int) = 3) = false by simpa using c]
      walk_at "w"
      exact k H Kp.refl
  | tri i j m e =>
    rename_i t
    walk_at "w"
    refine w_lcT (f' := fun v => v) (fun v => if isI v = true then none else some v) e (by rw [sizeLine_eq]; show 3 < _; decide) ?_ ?_
    · intro D y u acc H' hD hu hk hA hlen
      have hu2 : okV u = true ∧ isI u = true := by
        have := List.mem_of_getElem? hu
        simp only [List.mem_cons, List.mem_nil_iff, or_false] at this
        rcases this with rfl | rfl | rfl <;> exact ⟨rfl, rfl⟩
      walk_at "w"
      refine ⟨rfl, ?_⟩
      walk_at "w"
      refine ⟨u, rfl, .inl hu2.1, ?_⟩
      rw [hu2.2]
      walk_at "w"
      exact w_drop hk hA (by simp [hu2.2])
    · intro D H3 hD k3 hA
      walk_at "w"
      intro q hq
      have hA : H3 D = some (.lst (([] : List Int).map V.int)) := hA
      refine w_eqLI0 (upd_new hq hA) upd_same ?_
      exact k _ (k3.new hq)
/-! ### answers that are certified -/
theorem Tps.dv {K : PySem.W.Frag} {H : Hp} {xs : List V} {ts : List (List V)} (h : Tps H xs ts) (ok : ∀ r ∈ ts, r.all okV = true) : DvAll K H 9 xs (ts.map fun r => .tuple (r.map datV)) := by
  induction h with
  | nil => exact .nil
  | cons h1 _ ih => exact .cons (DV.tup h1 (DvAll.row (n := 8) (ok _ List.mem_cons_self))) (ih (fun r hr => ok r (List.mem_cons_of_mem _ hr)))
theorem cert_okV {n : Int} {log : List Int} {gs : List Int} : ∀ r ∈ gs.map (certT n log), r.all okV = true := by
  intro r hr
  obtain ⟨g, _, rfl⟩ := List.mem_map.mp hr
  rfl
/-- the list of losses is empty, or not -/
theorem w_eqLoss {K : PySem.W.Frag} {n : Int} {log : List Int} {H : Hp} {p q : Addr} {xs : List V} {gs : List Int} {Q : VK} (hp : H p = some (.lst xs)) (hT : Tps H xs (gs.map (certT n log))) (hq : H q = some (.lst [])) (k : Q (.bl (decide (gs = []))) H) : aEq K (.ref p) (.ref q) H Q := by
  refine w_eqV (DV.lst (n := 9) hp (hT.dv cert_okV)) (DV.lst (n := 9) hq .nil) ?_
  cases gs with
  | nil => rw [show PyData.eqv (.list ((([] : List Int).map (certT n log)).map fun r => .tuple (r.map datV))) (.list []) = true by simp [PyData.eqv, PyData.eqvAll]]; exact k
  | cons g gs => rw [show PyData.eqv (.list (((g :: gs).map (certT n log)).map fun r => .tuple (r.map datV))) (.list []) = false by rw [PyData.eqv]; exact eqvAll_len (by simp)]; exact k
theorem w_neLoss {K : PySem.W.Frag} {n : Int} {log : List Int} {H : Hp} {p q : Addr} {xs : List V} {gs : List Int} {Q : VK} (hp : H p = some (.lst xs)) (hT : Tps H xs (gs.map (certT n log))) (hq : H q = some (.lst [])) (k : Q (.bl (!decide (gs = []))) H) : aNe K (.ref p) (.ref q) H Q := by
  refine w_neV (DV.lst (n := 9) hp (hT.dv cert_okV)) (DV.lst (n := 9) hq .nil) ?_
  cases gs with
  | nil => rw [show PyData.eqv (.list ((([] : List Int).map (certT n log)).map fun r => .tuple (r.map datV))) (.list []) = true by simp [PyData.eqv, PyData.eqvAll]]; exact k
  | cons g gs => rw [show PyData.eqv (.list (((g :: gs).map (certT n log)).map fun r => .tuple (r.map datV))) (.list []) = false by rw [PyData.eqv]; exact eqvAll_len (by simp)]; exact k
def sp__law_certified (a : AD) : Sp := fun vs H Q _ => ∃ (n : Int) (p : Addr) (log : List Int), vs = [.int n, .ref p] ∧ 0 ≤ n ∧ n ≤ 60 ∧ H p = some (.lst (log.map V.int)) ∧ log.length ≤ 1000 ∧ okTo n (s0 n) log log.length ∧ ∀ H', Kp [] H H' → Q (.bl true) H'
theorem sc__law_certified : FnScope ["_law_size_here", "_law_moves", "_law_losses_here", "_law_handed", "_law_told_here"] ["_law_size_here", "_law_moves"] (defScope s__law_certified) := ⟨rfl, rfl, rfl, by decide +kernel, rfl, by decide +kernel, by decide +kernel⟩
theorem ok__law_certified {P : Program} {w : World} {K : PySem.W.Frag} {mg : Str → Option Value} {base : Heap} {a : AD} (T : Txt P K mg a) (G__law_losses : FnA P w K mg base 3 a.f__law_losses ["_law_size_here", "_law_moves"] (sp__law_losses a)) (G__law_told : FnA P w K mg base 8 a.f__law_told ["_law_asks", "_law_size_here", "_law_moves", "_law_value"] (sp__law_told a)) (G__law_fits : FnA P w K mg base 3 a.f__law_fits ["_law_told_here", "_law_word", "_law_first", "_law_second"] (sp__law_fits a)) (G__law_is_triple : FnA P w K mg base 3 a.f__law_is_triple ["_law_value"] (sp__law_is_triple a)) : FnA P w K mg base 9 a.f__law_certified ["_law_size_here", "_law_moves"] (sp__law_certified a) := by
  obtain ⟨fd, F, b⟩ := T.F__law_certified
  refine FnA.of F sc__law_certified b (fun vs H Q E h => by first | (obtain ⟨rfl, _⟩ := h; rfl) | (obtain ⟨_, rfl, _⟩ := h; rfl) | (obtain ⟨_, _, rfl, _⟩ := h; rfl) | (obtain ⟨_, _, _, rfl, _⟩ := h; rfl) | (obtain ⟨_, _, _, _, rfl, _⟩ := h; rfl) | (obtain ⟨_, _, _, _, _, rfl, _⟩ := h; rfl) | (obtain ⟨_, _, _, _, _, _, rfl, _⟩ := h; rfl) | (obtain ⟨_, _, _, _, _, _, _, rfl, _⟩ := h; rfl) | (obtain ⟨_, _, _, _, _, _, _, _, rfl, _⟩ := h; rfl) | (obtain ⟨_, _, _, _, _, _, _, _, _, rfl, _⟩ := h; rfl) | (obtain ⟨_, _, _, _, _, _, _, _, _, _, rfl, _⟩ := h; rfl) | (obtain ⟨_, _, _, _, _, _, _, _, _, _, _, rfl, _⟩ := h; rfl) | (obtain ⟨_, _, _, _, _, _, _, _, _, _, _, _, rfl, _⟩ := h; rfl) | (obtain ⟨_, _, _, _, _, _, _, _, _, _, _, _, _, rfl, _⟩ := h; rfl) | (obtain ⟨_, _, _, _, _, _, _, _, _, _, _, _, _, _, rfl, _⟩ := h; rfl) | (obtain ⟨_, _, _, _, _, _, _, _, _, _, _, _, _, _, _, rfl, _⟩ := h; rfl) | (obtain ⟨_, _, _, _, _, _, _, _, _, _, _, _, _, _, _, _, rfl, _⟩ := h; rfl) | (obtain ⟨_, _, _, _, _, _, _, _, _, _, _, _, _, _, _, _, _, rfl, _⟩ := h; rfl) | (obtain ⟨_, _, _, _, _, _, _, _, _, _, _, _, _, _, _, _, _, _, rfl, _⟩ := h; rfl) | (obtain ⟨_, _, _, _, _, _, _, _, _, _, _, _, _, _, _, _, _, _, _, rfl, _⟩ := h; rfl) | (obtain ⟨_, _, _, _, _, _, _, _, _, _, _, _, _, _, _, _, _, _, _, _, rfl, _⟩ := h; rfl) | (obtain ⟨_, _, _, _, _, _, _, _, _, _, _, _, _, _, _, _, _, _, _, _, _, rfl, _⟩ := h; rfl) | (obtain ⟨_, _, _, _, _, _, _, _, _, _, _, _, _, _, _, _, _, _, _, _, _, _, rfl, _⟩ := h; rfl) | (obtain ⟨_, _, _, _, _, _, _, _, _, _, _, _, _, _, _, _, _, _, _, _, _, _, _, rfl, _⟩ := h; rfl)) (fun cdv A outer s H vs Q E hr tk pz h => ?_)
  have hu := hr.units
  have hrH := L2H.roomH_of hr
  obtain ⟨n, p, log, rfl, n0, n1, hp, hlen, hok, k⟩ := h
  refine ⟨_, (pss_cons (ps_set (i := 2) sc__law_certified.nd rfl (Or.inl rfl) (pe_callA G__law_losses (Room.mono hr (by decide)) T.n__law_losses tk (pa_cons (pv 0) (pa_cons (pv 1) pa_nil))))
      (pss_cons (ps_set (i := 3) sc__law_certified.nd rfl (Or.inl rfl) (pe_callTy b_list rfl T.b_list (by decide +kernel) (pa_cons (pv 1) pa_nil)))
      (pss_cons (ps_set (i := 4) sc__law_certified.nd rfl (Or.inl rfl) (pe_callA G__law_told (Room.mono hr (by decide)) T.n__law_told tk (pa_cons pe_str (pa_cons (pv 0) (pa_cons (pv 3) (pa_cons pe_non pa_nil))))))
      (pss_cons (ps_if (pt_cmpA (o_ne hu) (pv 3) (pv 1) (nomark _)) (pss_one (ps_ret pe_bl)) pss_nil)
      (pss_cons (ps_if (pt_cmpA (o_eq hu) (pv 2) (pe_lst pa_nil) (nomark _)) (pss_one (ps_ret (pe_callA G__law_fits (Room.mono hr (by decide)) T.n__law_fits tk (pa_cons (pv 4) (pa_cons pe_str (pa_cons (pv 0) (pa_cons pe_int pa_nil))))))) pss_nil)
      (pss_one (ps_ret (pe_and (pe_cmpR (o_eq hu) (pe_ix ix_seq (pv 4) pe_int (fun _ _ => rfl)) pe_str (nomark _)) (pe_and (pe_callA G__law_is_triple (Room.mono hr (by decide)) T.n__law_is_triple tk (pa_cons (pe_ix ix_seq (pv 4) pe_int (fun _ _ => rfl)) pa_nil)) (pe_one (pe_cmpR (o_eq hu) (pe_ix ix_seq (pv 4) pe_int (fun _ _ => rfl)) (pe_ix ix_seq (pv 2) pe_int (fun _ _ => rfl)) (nomark _)))))))))))), ?_⟩
  show (_ : Ends → L2.St → Hp → Prop) _ [some _, some _, none, none, none] _
  try dsimp only [L2H.cxH, cxOf]
  walk_at "w"
  refine ⟨n, p, log, rfl, n0, n1, hp, hlen, hok, fun d xs H1 hd k1 hd1 hT1 => ?_⟩
  have hp1 := k1.at0 hp
  walk_at "w"
  intro q hq
  have kq := k1.new (o := .lst (log.map V.int)) hq
  have hq2 : upd H1 q (.lst (log.map V.int)) q = some (.lst (log.map V.int)) := upd_same
  have hd2 := upd_new (o := .lst (log.map V.int)) hq hd1
  have hT2 := hT1.new (o := .lst (log.map V.int)) hq
  generalize upd H1 q (.lst (log.map V.int)) = H2 at kq hq2 hd2 hT2 ⊢
  have hp2 := kq.at0 hp
  walk_at "w"
  refine ⟨"made", n, q, log, .non, none, rfl, hq2, by omega, .inl ⟨rfl, rfl⟩, fun tp row H3 htp k3 htp3 hF => ?_⟩
  have hp3 := k3.at0 hp2
  have hq3 := k3.at0 hq2
  have hd3 := k3.at0 hd2
  have hT3 := hT2.kp0 k3
  have k03 := kq.trans0 k3
  walk_at "w"
  intro z hz
  refine w_eqLoss (upd_new hz hd3) (hT3.new hz) upd_same ?_
  have k4 := k03.new (o := .lst []) hz
  have htp4 := upd_new (o := .lst []) hz htp3
  have hd4 := upd_new (o := .lst []) hz hd3
  have hT4 := hT3.new (o := .lst []) hz
  cases hF with
  | size c => exact absurd ⟨n0, n1⟩ c
  | op i o _ _ b => exact (badIx_no hok b).elim
  | ill i o _ _ b => exact (badIx_no hok b).elim
  | no _ _ _ e =>
    rw [e, show decide (([] : List Int) = []) = true by simp]
    walk_at "w"
    exact ⟨tp, _, _, _, rfl, htp4, k _ k4⟩
  | made y0 y1 y2 e ht =>
    rename_i g rest t
    have ht4 := upd_new (o := .lst []) hz ht
    rw [e] at hT4 ⊢
    rw [show decide (g :: rest = []) = false by simp]
    obtain ⟨y, e1, e2⟩ := hT4.get (k := 0) (p := certT n log g) rfl
    generalize upd H3 z (.lst []) = H4 at k4 htp4 hd4 hT4 ht4 e2 ⊢
    walk_at "w"
    refine ⟨_, some (g, fstF n log g, secF n log g), rfl, .tri _ _ _ ht4, fun H5 k5 => ?_⟩
    have htp5 := k5.at0 htp4
    have hd5 := k5.at0 hd4
    walk_at "w"
    refine w_eqV (DV.tup (n := 9) (k5.at0 ht4) (DvAll.row rfl)) (DV.tup (n := 9) (k5.at0 e2) (DvAll.row rfl)) ?_
    have e3 : PyData.eqv (.tuple ((certT n log g).map datV)) (.tuple ((certT n log g).map datV)) = true := by
      refine (eqv_int3 (a := g) (b := fstF n log g) (c := secF n log g)).trans ?_
      simp
    rw [e3]
    exact k H5 (k4.trans0 k5)
def sp__law_judged (a : AD) : Sp := fun vs H Q _ => ∃ (n : Int) (p d : Addr) (log : List Int) (xs : List V) (v : V) (o : Option (Int × Int × Int)), vs = [.int n, .ref p, .ref d, v] ∧ 0 ≤ n ∧ n ≤ 60 ∧ H p = some (.lst (log.map V.int)) ∧ log.length ≤ 1000 ∧ okTo n (s0 n) log log.length ∧ H d = some (.lst xs) ∧ Tps H xs ((lostE n log).map (certT n log)) ∧ JV H v o ∧ ∀ H', Kp [] H H' → Q (.bl true) H'
theorem sc__law_judged : FnScope ["_law_size_here", "_law_moves", "_law_losses_here", "_law_value", "_law_told_here"] ["_law_size_here", "_law_moves", "_law_losses_here", "_law_value"] (defScope s__law_judged) := ⟨rfl, rfl, rfl, by decide +kernel, rfl, by decide +kernel, by decide +kernel⟩
theorem ok__law_judged {P : Program} {w : World} {K : PySem.W.Frag} {mg : Str → Option Value} {base : Heap} {a : AD} (T : Txt P K mg a) (G__law_told : FnA P w K mg base 8 a.f__law_told ["_law_asks", "_law_size_here", "_law_moves", "_law_value"] (sp__law_told a)) (G__law_is_triple : FnA P w K mg base 3 a.f__law_is_triple ["_law_value"] (sp__law_is_triple a)) : FnA P w K mg base 9 a.f__law_judged ["_law_size_here", "_law_moves", "_law_losses_here", "_law_value"] (sp__law_judged a) := by
  obtain ⟨fd, F, b⟩ := T.F__law_judged
  refine FnA.of F sc__law_judged b (fun vs H Q E h => by first | (obtain ⟨rfl, _⟩ := h; rfl) | (obtain ⟨_, rfl, _⟩ := h; rfl) | (obtain ⟨_, _, rfl, _⟩ := h; rfl) | (obtain ⟨_, _, _, rfl, _⟩ := h; rfl) | (obtain ⟨_, _, _, _, rfl, _⟩ := h; rfl) | (obtain ⟨_, _, _, _, _, rfl, _⟩ := h; rfl) | (obtain ⟨_, _, _, _, _, _, rfl, _⟩ := h; rfl) | (obtain ⟨_, _, _, _, _, _, _, rfl, _⟩ := h; rfl) | (obtain ⟨_, _, _, _, _, _, _, _, rfl, _⟩ := h; rfl) | (obtain ⟨_, _, _, _, _, _, _, _, _, rfl, _⟩ := h; rfl) | (obtain ⟨_, _, _, _, _, _, _, _, _, _, rfl, _⟩ := h; rfl) | (obtain ⟨_, _, _, _, _, _, _, _, _, _, _, rfl, _⟩ := h; rfl) | (obtain ⟨_, _, _, _, _, _, _, _, _, _, _, _, rfl, _⟩ := h; rfl) | (obtain ⟨_, _, _, _, _, _, _, _, _, _, _, _, _, rfl, _⟩ := h; rfl) | (obtain ⟨_, _, _, _, _, _, _, _, _, _, _, _, _, _, rfl, _⟩ := h; rfl) | (obtain ⟨_, _, _, _, _, _, _, _, _, _, _, _, _, _, _, rfl, _⟩ := h; rfl) | (obtain ⟨_, _, _, _, _, _, _, _, _, _, _, _, _, _, _, _, rfl, _⟩ := h; rfl) | (obtain ⟨_, _, _, _, _, _, _, _, _, _, _, _, _, _, _, _, _, rfl, _⟩ := h; rfl) | (obtain ⟨_, _, _, _, _, _, _, _, _, _, _, _, _, _, _, _, _, _, rfl, _⟩ := h; rfl) | (obtain ⟨_, _, _, _, _, _, _, _, _, _, _, _, _, _, _, _, _, _, _, rfl, _⟩ := h; rfl) | (obtain ⟨_, _, _, _, _, _, _, _, _, _, _, _, _, _, _, _, _, _, _, _, rfl, _⟩ := h; rfl) | (obtain ⟨_, _, _, _, _, _, _, _, _, _, _, _, _, _, _, _, _, _, _, _, _, rfl, _⟩ := h; rfl) | (obtain ⟨_, _, _, _, _, _, _, _, _, _, _, _, _, _, _, _, _, _, _, _, _, _, rfl, _⟩ := h; rfl) | (obtain ⟨_, _, _, _, _, _, _, _, _, _, _, _, _, _, _, _, _, _, _, _, _, _, _, rfl, _⟩ := h; rfl)) (fun cdv A outer s H vs Q E hr tk pz h => ?_)
  have hu := hr.units
  have hrH := L2H.roomH_of hr
  obtain ⟨n, p, d, log, xs, v, o, rfl, n0, n1, hp, hlen, hok, hd, hT, hv, k⟩ := h
  refine ⟨_, (pss_cons (ps_set (i := 4) sc__law_judged.nd rfl (Or.inl rfl) (pe_callA G__law_told (Room.mono hr (by decide)) T.n__law_told tk (pa_cons pe_str (pa_cons (pv 0) (pa_cons (pv 1) (pa_cons (pv 3) pa_nil))))))
      (pss_cons (ps_if (PW.pt (pw_or (pt_cmpA (o_ne hu) (pe_ix ix_seq (pv 4) pe_int (fun _ _ => rfl)) pe_str (nomark _)) (pw_or1 (pt_not (pt_tru (pe_callB (call_isi) rfl T.b_isinstance (by decide +kernel) (pa_cons (pe_ix ix_seq (pv 4) pe_int (fun _ _ => rfl)) (pa_cons (pe_bltn (v := .ty "bool") rfl T.b_bool (by decide +kernel) rfl) pa_nil)))))))) (pss_one (ps_ret pe_bl)) pss_nil)
      (pss_one (ps_ret (pe_cmpR (o_eq hu) (pe_ix ix_seq (pv 4) pe_int (fun _ _ => rfl)) (pe_and (pe_callA G__law_is_triple (Room.mono hr (by decide)) T.n__law_is_triple tk (pa_cons (pv 3) pa_nil)) (pe_one (pe_cmpR (op_inD (room65 hr)) (pv 3) (pv 2) (by rfl)))) (nomark _)))))), ?_⟩
  show (_ : Ends → L2.St → Hp → Prop) _ [some _, some _, some _, some _, none] _
  try dsimp only [L2H.cxH, cxOf]
  walk_at "w"
  refine ⟨"judged", n, p, log, v, some o, rfl, hp, by omega, .inr ⟨rfl, o, rfl, hv⟩, fun tp row H3 htp k3 htp3 hF => ?_⟩
  have hv3 := hv.kp0 k3
  have hd3 := k3.at0 hd
  have hT3 := hT.kp0 k3
  cases hF with
  | size c => exact absurd ⟨n0, n1⟩ c
  | op i o _ _ b => exact (badIx_no hok b).elim
  | ill i o _ _ b => exact (badIx_no hok b).elim
  | jud _ _ _ =>
    walk_at "w"
    refine ⟨v, o, rfl, hv3, fun H4 k4 => ?_⟩
    have k04 := k3.trans0 k4
    have hd4 := k4.at0 hd3
    have hT4 := hT3.kp0 k4
    have hv4 := hv3.kp0 k4
    cases o with
    | none =>
      walk_at "w"
      exact k H4 k04
    | some ijk =>
      obtain ⟨i, j, m⟩ := ijk
      walk_at "w"
      cases hv4 with
      | tri _ _ _ e =>
        refine w_inD (DV.tup (n := 9) e (DvAll.row (vs := [.int i, .int j, .int m]) rfl)) (DV.lst (n := 9) hd4 (hT4.dv cert_okV)) ?_
        have e5 : ((((lostE n log).map (certT n log)).map fun r => PyData.tuple (r.map datV)).any fun z => PyData.eqv z (.tuple (([.int i, .int j, .int m] : List V).map datV))) = jud n log (some (i, j, m)) := by
          rw [List.map_map, List.any_map, Bool.eq_iff_iff, List.any_eq_true]
          unfold jud
          rw [decide_eq_true_iff]
          constructor
          · rintro ⟨g, hg, e⟩
            have := (eqv_int3 (a := g) (b := fstF n log g) (c := secF n log g) (i := i) (j := j) (k := m)).symm.trans e
            simp at this
            obtain ⟨rfl, h2, h3⟩ := this
            exact ⟨hg, h2, h3⟩
          · rintro ⟨hg, h2, h3⟩
            refine ⟨i, hg, (eqv_int3 (a := i) (b := fstF n log i) (c := secF n log i) (i := i) (j := j) (k := m)).trans ?_⟩
            simp [h2, h3]
        rw [e5]
        walk_at "w"
        rw [show decide (jud n log (some (i, j, m)) = jud n log (some (i, j, m))) = true by simp]
        exact k H4 k04
def sp__law_truth (a : AD) : Sp := fun vs H Q _ => ∃ i : Int, vs = [.int i] ∧ ∀ v, okV v = true → (v = .int i ∨ ∃ b, v = .bl b) → Q v H
theorem sc__law_truth : FnScope ["_law_number_here"] ["_law_number_here"] (defScope s__law_truth) := ⟨rfl, rfl, rfl, by decide +kernel, rfl, by decide +kernel, by decide +kernel⟩
theorem ok__law_truth {P : Program} {w : World} {K : PySem.W.Frag} {mg : Str → Option Value} {base : Heap} {a : AD} (T : Txt P K mg a) : FnA P w K mg base 2 a.f__law_truth ["_law_number_here"] (sp__law_truth a) := by
  obtain ⟨fd, F, b⟩ := T.F__law_truth
  refine FnA.of F sc__law_truth b (fun vs H Q E h => by first | (obtain ⟨rfl, _⟩ := h; rfl) | (obtain ⟨_, rfl, _⟩ := h; rfl) | (obtain ⟨_, _, rfl, _⟩ := h; rfl) | (obtain ⟨_, _, _, rfl, _⟩ := h; rfl) | (obtain ⟨_, _, _, _, rfl, _⟩ := h; rfl) | (obtain ⟨_, _, _, _, _, rfl, _⟩ := h; rfl) | (obtain ⟨_, _, _, _, _, _, rfl, _⟩ := h; rfl) | (obtain ⟨_, _, _, _, _, _, _, rfl, _⟩ := h; rfl) | (obtain ⟨_, _, _, _, _, _, _, _, rfl, _⟩ := h; rfl) | (obtain ⟨_, _, _, _, _, _, _, _, _, rfl, _⟩ := h; rfl) | (obtain ⟨_, _, _, _, _, _, _, _, _, _, rfl, _⟩ := h; rfl) | (obtain ⟨_, _, _, _, _, _, _, _, _, _, _, rfl, _⟩ := h; rfl) | (obtain ⟨_, _, _, _, _, _, _, _, _, _, _, _, rfl, _⟩ := h; rfl) | (obtain ⟨_, _, _, _, _, _, _, _, _, _, _, _, _, rfl, _⟩ := h; rfl) | (obtain ⟨_, _, _, _, _, _, _, _, _, _, _, _, _, _, rfl, _⟩ := h; rfl) | (obtain ⟨_, _, _, _, _, _, _, _, _, _, _, _, _, _, _, rfl, _⟩ := h; rfl) | (obtain ⟨_, _, _, _, _, _, _, _, _, _, _, _, _, _, _, _, rfl, _⟩ := h; rfl) | (obtain ⟨_, _, _, _, _, _, _, _, _, _, _, _, _, _, _, _, _, rfl, _⟩ := h; rfl) | (obtain ⟨_, _, _, _, _, _, _, _, _, _, _, _, _, _, _, _, _, _, rfl, _⟩ := h; rfl) | (obtain ⟨_, _, _, _, _, _, _, _, _, _, _, _, _, _, _, _, _, _, _, rfl, _⟩ := h; rfl) | (obtain ⟨_, _, _, _, _, _, _, _, _, _, _, _, _, _, _, _, _, _, _, _, rfl, _⟩ := h; rfl) | (obtain ⟨_, _, _, _, _, _, _, _, _, _, _, _, _, _, _, _, _, _, _, _, _, rfl, _⟩ := h; rfl) | (obtain ⟨_, _, _, _, _, _, _, _, _, _, _, _, _, _, _, _, _, _, _, _, _, _, rfl, _⟩ := h; rfl) | (obtain ⟨_, _, _, _, _, _, _, _, _, _, _, _, _, _, _, _, _, _, _, _, _, _, _, rfl, _⟩ := h; rfl)) (fun cdv A outer s H vs Q E hr tk pz h => ?_)
  have hu := hr.units
  have hrH := L2H.roomH_of hr
  obtain ⟨i, rfl, k⟩ := h
  refine ⟨_, (pss_cons (ps_if (PW.pt (pw_or (pt_cmpA (o_eq hu) (pv 0) pe_int (nomark _)) (pw_or1 (pt_cmpA (o_eq hu) (pv 0) pe_int (nomark _))))) (pss_one (ps_ret (pe_cmpR (o_eq hu) (pv 0) pe_int (nomark _)))) pss_nil)
      (pss_one (ps_ret (pv 0)))), ?_⟩
  show (_ : Ends → L2.St → Hp → Prop) _ [some _] _
  try dsimp only [L2H.cxH, cxOf]
  walk_at "w"
  refine w_ite (fun c => ?_) (fun c => ?_)
  · walk_at "w"
    exact k _ rfl (.inr ⟨_, rfl⟩)
  · walk_at "w"
    refine w_ite (fun c => ?_) (fun c => ?_)
    · walk_at "w"
      exact k _ rfl (.inr ⟨_, rfl⟩)
    · walk_at "w"
      exact k _ rfl (.inl rfl)
/-! ### values -/
theorem JV.kpB {H H' : Hp} {b q : Addr} {v : V} {o : Option (Int × Int × Int)} (h : JV H v o) (B : Box H b q) (k : Kp [b] H H') : JV H' v o := by
  obtain ⟨ns, i, big, st, c, hb, _⟩ := B
  have kt : ∀ {p vs}, H p = some (.tup vs) → H' p = some (.tup vs) := fun {p vs} e => k p _ e (by
    simp only [List.mem_singleton]
    rintro rfl
    rw [hb] at e; cases e)
  have kl : ∀ {p xs}, H p = some (.lst xs) → xs.all okV = true → H' p = some (.lst xs) := fun {p xs} e hn => k p _ e (by
    simp only [List.mem_singleton]
    rintro rfl
    rw [hb] at e
    cases e
    exact absurd hn (by simp [okV]))
  cases h with
  | int k => exact .int k
  | str x => exact .str x
  | non => exact .non
  | lst e n => exact .lst (kl e n) n
  | tri i j l e => exact .tri i j l (kt e)
  | tup e n m =>
    refine .tup (kt e) (fun v hv => ?_) m
    rcases n v hv with h | ⟨q, ws, e, h, o⟩
    · exact .inl h
    · exact .inr ⟨q, ws, e, kt h, o⟩
/-- a tuple of flat things is judged -/
theorem JV.flat {H : Hp} {p : Addr} {vs : List V} (e : H p = some (.tup vs)) (h : vs.all okV = true) : ∃ o, JV H (.ref p) o := by
  have gen : (vs.length ≠ 3 ∨ ∃ v ∈ vs, isI v = false) → ∃ o, JV H (.ref p) o := fun z => ⟨_, .tup e (fun v hv => .inl (List.all_eq_true.mp h v hv)) z⟩
  match vs, e, h, gen with
  | [], e, h, gen => exact gen (.inl (by simp))
  | [x], e, h, gen => exact gen (.inl (by simp))
  | [x, y], e, h, gen => exact gen (.inl (by simp))
  | x :: y :: z :: w :: r, e, h, gen => exact gen (.inl (by simp))
  | [x, y, z], e, h, gen =>
    cases x with
    | int i =>
      cases y with
      | int j =>
        cases z with
        | int k => exact ⟨_, .tri i j k e⟩
        | _ => exact gen (.inr ⟨_, List.mem_cons_of_mem _ (List.mem_cons_of_mem _ List.mem_cons_self), rfl⟩)
      | _ => exact gen (.inr ⟨_, List.mem_cons_of_mem _ List.mem_cons_self, rfl⟩)
    | _ => exact gen (.inr ⟨_, List.mem_cons_self, rfl⟩)
theorem JV.tup1 {H : Hp} {p : Addr} {vs : List V} (e : H p = some (.tup vs)) (h : ∀ v ∈ vs, ItV H v) (x : ∃ v ∈ vs, isI v = false) : ∃ o, JV H (.ref p) o := ⟨_, .tup e h (.inr x)⟩
def sp__law_values (a : AD) : Sp := fun vs H Q _ => ∃ (t : Addr) (g x y : Int), vs = [.ref t] ∧ H t = some (.tup [.int g, .int x, .int y]) ∧ 0 ≤ y ∧ y ≤ 1000000 ∧ ∀ (p : Addr) (ws : List V) (H' : Hp), H p = none → Kp [] H H' → H' p = some (.lst ws) → ws.length ≤ 40 → (∀ v ∈ ws, ∃ o, JV H' v o) → Q (.ref p) H'
theorem sc__law_values : FnScope ["_law_triple", "_law_gap", "_law_first", "_law_second"] ["_law_triple"] (defScope s__law_values) := ⟨rfl, rfl, rfl, by decide +kernel, rfl, by decide +kernel, by decide +kernel⟩
theorem ok__law_values {P : Program} {w : World} {K : PySem.W.Frag} {mg : Str → Option Value} {base : Heap} {a : AD} (T : Txt P K mg a) (G__law_truth : FnA P w K mg base 2 a.f__law_truth ["_law_number_here"] (sp__law_truth a)) : FnA P w K mg base 3 a.f__law_values ["_law_triple"] (sp__law_values a) := by
  obtain ⟨fd, F, b⟩ := T.F__law_values
  refine FnA.of F sc__law_values b (fun vs H Q E h => by first | (obtain ⟨rfl, _⟩ := h; rfl) | (obtain ⟨_, rfl, _⟩ := h; rfl) | (obtain ⟨_, _, rfl, _⟩ := h; rfl) | (obtain ⟨_, _, _, rfl, _⟩ := h; rfl) | (obtain ⟨_, _, _, _, rfl, _⟩ := h; rfl) | (obtain ⟨_, _, _, _, _, rfl, _⟩ := h; rfl) | (obtain ⟨_, _, _, _, _, _, rfl, _⟩ := h; rfl) | (obtain ⟨_, _, _, _, _, _, _, rfl, _⟩ := h; rfl) | (obtain ⟨_, _, _, _, _, _, _, _, rfl, _⟩ := h; rfl) | (obtain ⟨_, _, _, _, _, _, _, _, _, rfl, _⟩ := h; rfl) | (obtain ⟨_, _, _, _, _, _, _, _, _, _, rfl, _⟩ := h; rfl) | (obtain ⟨_, _, _, _, _, _, _, _, _, _, _, rfl, _⟩ := h; rfl) | (obtain ⟨_, _, _, _, _, _, _, _, _, _, _, _, rfl, _⟩ := h; rfl) | (obtain ⟨_, _, _, _, _, _, _, _, _, _, _, _, _, rfl, _⟩ := h; rfl) | (obtain ⟨_, _, _, _, _, _, _, _, _, _, _, _, _, _, rfl, _⟩ := h; rfl) | (obtain ⟨_, _, _, _, _, _, _, _, _, _, _, _, _, _, _, rfl, _⟩ := h; rfl) | (obtain ⟨_, _, _, _, _, _, _, _, _, _, _, _, _, _, _, _, rfl, _⟩ := h; rfl) | (obtain ⟨_, _, _, _, _, _, _, _, _, _, _, _, _, _, _, _, _, rfl, _⟩ := h; rfl) | (obtain ⟨_, _, _, _, _, _, _, _, _, _, _, _, _, _, _, _, _, _, rfl, _⟩ := h; rfl) | (obtain ⟨_, _, _, _, _, _, _, _, _, _, _, _, _, _, _, _, _, _, _, rfl, _⟩ := h; rfl) | (obtain ⟨_, _, _, _, _, _, _, _, _, _, _, _, _, _, _, _, _, _, _, _, rfl, _⟩ := h; rfl) | (obtain ⟨_, _, _, _, _, _, _, _, _, _, _, _, _, _, _, _, _, _, _, _, _, rfl, _⟩ := h; rfl) | (obtain ⟨_, _, _, _, _, _, _, _, _, _, _, _, _, _, _, _, _, _, _, _, _, _, rfl, _⟩ := h; rfl) | (obtain ⟨_, _, _, _, _, _, _, _, _, _, _, _, _, _, _, _, _, _, _, _, _, _, _, rfl, _⟩ := h; rfl)) (fun cdv A outer s H vs Q E hr tk pz h => ?_)
  have hu := hr.units
  have hrH := L2H.roomH_of hr
  obtain ⟨t, g, x, y, rfl, ht, y0, y1, k⟩ := h
  refine ⟨_, (pss_cons (ps_set (i := 1) sc__law_values.nd rfl (Or.inl rfl) (pe_ix ix_seq (pv 0) pe_int (fun _ _ => rfl)))
      (pss_cons (ps_set (i := 2) sc__law_values.nd rfl (Or.inl rfl) (pe_ix ix_seq (pv 0) pe_int (fun _ _ => rfl)))
      (pss_cons (ps_set (i := 3) sc__law_values.nd rfl (Or.inl rfl) (pe_ix ix_seq (pv 0) pe_int (fun _ _ => rfl)))
      (pss_one (ps_ret (pe_lst (pa_cons (pv 0) (pa_cons (pe_tup (pa_cons (pe_op o_add (pv 1) pe_int) (pa_cons (pv 2) (pa_cons (pv 3) pa_nil)))) (pa_cons (pe_tup (pa_cons (pe_op op_sub (pv 1) pe_int) (pa_cons (pv 2) (pa_cons (pv 3) pa_nil)))) (pa_cons (pe_tup (pa_cons (pv 1) (pa_cons (pe_op o_add (pv 2) pe_int) (pa_cons (pv 3) pa_nil)))) (pa_cons (pe_tup (pa_cons (pv 1) (pa_cons (pe_op op_sub (pv 2) pe_int) (pa_cons (pv 3) pa_nil)))) (pa_cons (pe_tup (pa_cons (pv 1) (pa_cons (pv 2) (pa_cons (pe_op o_add (pv 3) pe_int) pa_nil)))) (pa_cons (pe_tup (pa_cons (pv 1) (pa_cons (pv 2) (pa_cons (pe_op op_sub (pv 3) pe_int) pa_nil)))) (pa_cons (pe_tup (pa_cons (pv 1) (pa_cons (pv 3) (pa_cons (pv 2) pa_nil)))) (pa_cons (pe_tup (pa_cons (pv 2) (pa_cons (pv 1) (pa_cons (pv 3) pa_nil)))) (pa_cons (pe_tup (pa_cons (pv 1) (pa_cons (pv 2) (pa_cons (pv 2) pa_nil)))) (pa_cons (pe_tup (pa_cons (pv 1) (pa_cons (pv 3) (pa_cons (pv 3) pa_nil)))) (pa_cons (pe_tup (pa_cons (pe_un un_neg pe_int) (pa_cons (pv 2) (pa_cons (pv 3) pa_nil)))) (pa_cons (pe_tup (pa_cons (pv 1) (pa_cons (pe_un un_neg pe_int) (pa_cons (pv 3) pa_nil)))) (pa_cons (pe_tup (pa_cons (pv 1) (pa_cons (pv 2) (pa_cons (pe_op op_pow pe_int pe_int) pa_nil)))) (pa_cons (pe_tup (pa_cons (pe_callA G__law_truth (Room.mono hr (by decide)) T.n__law_truth tk (pa_cons (pv 1) pa_nil)) (pa_cons (pv 2) (pa_cons (pv 3) pa_nil)))) (pa_cons (pe_tup (pa_cons (pv 1) (pa_cons (pe_callA G__law_truth (Room.mono hr (by decide)) T.n__law_truth tk (pa_cons (pv 2) pa_nil)) (pa_cons (pv 3) pa_nil)))) (pa_cons (pe_tup (pa_cons (pv 1) (pa_cons (pv 2) (pa_cons (pe_callA G__law_truth (Room.mono hr (by decide)) T.n__law_truth tk (pa_cons (pv 3) pa_nil)) pa_nil)))) (pa_cons (pe_lst (pa_cons (pv 1) (pa_cons (pv 2) (pa_cons (pv 3) pa_nil)))) (pa_cons (pe_tup (pa_cons (pv 1) (pa_cons (pv 2) pa_nil))) (pa_cons (pe_tup (pa_cons (pv 1) (pa_cons (pv 2) (pa_cons (pv 3) (pa_cons pe_int pa_nil))))) (pa_cons (pe_tup pa_nil) (pa_cons pe_non (pa_cons pe_str (pa_cons pe_str (pa_cons (pv 1) (pa_cons (pe_lst pa_nil) (pa_cons (pe_tup (pa_cons pe_non (pa_cons (pv 2) (pa_cons (pv 3) pa_nil)))) (pa_cons (pe_tup (pa_cons (pv 1) (pa_cons (pe_tup (pa_cons (pv 2) pa_nil)) (pa_cons (pv 3) pa_nil)))) (pa_cons (pe_tup (pa_cons (pv 1) (pa_cons (pv 2) (pa_cons (pe_callTy b_str rfl T.b_str (by decide +kernel) (pa_cons (pv 3) pa_nil)) pa_nil)))) (pa_cons (pe_tup (pa_cons (pv 0) pa_nil)) (pa_cons (pe_tup (pa_cons (pv 0) (pa_cons (pv 2) (pa_cons (pv 3) pa_nil)))) pa_nil))))))))))))))))))))))))))))))))))))), ?_⟩
  show (_ : Ends → L2.St → Hp → Prop) _ [some _, none, none, none] _
  try dsimp only [L2H.cxH, cxOf]
  walk_at "w"
  intro t1 h1
  walk_at "w"
  intro t2 h2
  walk_at "w"
  intro t3 h3
  walk_at "w"
  intro t4 h4
  walk_at "w"
  intro t5 h5
  walk_at "w"
  intro t6 h6
  walk_at "w"
  intro t7 h7
  walk_at "w"
  intro t8 h8
  walk_at "w"
  intro t9 h9
  walk_at "w"
  intro t10 h10
  walk_at "w"
  intro t11 h11
  walk_at "w"
  intro t12 h12
  walk_at "w"
  intro t13 h13
  walk_at "w"
  refine ⟨_, rfl, fun u14 ou14 _ => ?_⟩
  walk_at "w"
  intro t14 h14
  walk_at "w"
  refine ⟨_, rfl, fun u15 ou15 _ => ?_⟩
  walk_at "w"
  intro t15 h15
  walk_at "w"
  refine ⟨_, rfl, fun u16 ou16 _ => ?_⟩
  walk_at "w"
  intro t16 h16
  walk_at "w"
  intro t17 h17
  walk_at "w"
  intro t18 h18
  walk_at "w"
  intro t19 h19
  walk_at "w"
  intro t20 h20
  walk_at "w"
  intro t21 h21
  walk_at "w"
  intro t22 h22
  walk_at "w"
  intro t23 h23
  walk_at "w"
  intro t24 h24
  walk_at "w"
  intro t25 h25
  walk_at "w"
  intro t26 h26
  walk_at "w"
  intro t27 h27
  walk_at "w"
  intro t28 h28
  walk_at "w"
  have hst : okV (.str (Str.ofString (toString y))) = true := strI_ok (by omega)
  refine k t28 _ _ (upd_nil (upd_nil (upd_nil (upd_nil (upd_nil (upd_nil (upd_nil (upd_nil (upd_nil (upd_nil (upd_nil (upd_nil (upd_nil (upd_nil (upd_nil (upd_nil (upd_nil (upd_nil (upd_nil (upd_nil (upd_nil (upd_nil (upd_nil (upd_nil (upd_nil (upd_nil (upd_nil h28))))))))))))))))))))))))))) (by walk_at "kp") upd_same (by simp) ?_
  intro v hv
  simp only [List.mem_cons, List.mem_nil_iff, or_false] at hv
  rcases hv with rfl | rfl | rfl | rfl | rfl | rfl | rfl | rfl | rfl | rfl | rfl | rfl | rfl | rfl | rfl | rfl | rfl | rfl | rfl | rfl | rfl | rfl | rfl | rfl | rfl | rfl | rfl | rfl | rfl | rfl | rfl
  · exact JV.flat (vs := [.int g, .int x, .int y]) (by walk_at "hp") rfl
  · exact JV.flat (vs := [.int (g + 1), .int x, .int y]) (by walk_at "hp") rfl
  · exact JV.flat (vs := [.int (g - 1), .int x, .int y]) (by walk_at "hp") rfl
  · exact JV.flat (vs := [.int g, .int (x + 1), .int y]) (by walk_at "hp") rfl
  · exact JV.flat (vs := [.int g, .int (x - 1), .int y]) (by walk_at "hp") rfl
  · exact JV.flat (vs := [.int g, .int x, .int (y + 1)]) (by walk_at "hp") rfl
  · exact JV.flat (vs := [.int g, .int x, .int (y - 1)]) (by walk_at "hp") rfl
  · exact JV.flat (vs := [.int g, .int y, .int x]) (by walk_at "hp") rfl
  · exact JV.flat (vs := [.int x, .int g, .int y]) (by walk_at "hp") rfl
  · exact JV.flat (vs := [.int g, .int x, .int x]) (by walk_at "hp") rfl
  · exact JV.flat (vs := [.int g, .int y, .int y]) (by walk_at "hp") rfl
  · exact JV.flat (vs := [.int (-1), .int x, .int y]) (by walk_at "hp") rfl
  · exact JV.flat (vs := [.int g, .int (-1), .int y]) (by walk_at "hp") rfl
  · exact JV.flat (vs := [.int g, .int x, .int (10 ^ Int.toNat 20)]) (by walk_at "hp") rfl
  · exact JV.flat (vs := [u14, .int x, .int y]) (by walk_at "hp") (by show (okV u14 && (true && (true && true))) = true; rw [ou14]; rfl)
  · exact JV.flat (vs := [.int g, u15, .int y]) (by walk_at "hp") (by show (true && (okV u15 && (true && true))) = true; rw [ou15]; rfl)
  · exact JV.flat (vs := [.int g, .int x, u16]) (by walk_at "hp") (by show (true && (true && (okV u16 && true))) = true; rw [ou16]; rfl)
  · exact ⟨_, .lst (vs := [.int g, .int x, .int y]) (by walk_at "hp") rfl⟩
  · exact JV.flat (vs := [.int g, .int x]) (by walk_at "hp") rfl
  · exact JV.flat (vs := [.int g, .int x, .int y, .int 0]) (by walk_at "hp") rfl
  · exact JV.flat (vs := []) (by walk_at "hp") rfl
  · exact ⟨_, .non⟩
  · exact ⟨_, .str _⟩
  · exact ⟨_, .str _⟩
  · exact ⟨_, .int _⟩
  · exact ⟨_, .lst (vs := []) (by walk_at "hp") rfl⟩
  · exact JV.flat (vs := [.non, .int x, .int y]) (by walk_at "hp") rfl
  · refine JV.tup1 (vs := [.int g, .ref t23, .int y]) (by walk_at "hp") (fun v hv => ?_) ⟨.ref t23, by simp, rfl⟩
    simp only [List.mem_cons, List.mem_nil_iff, or_false] at hv
    rcases hv with rfl | rfl | rfl
    · exact .inl rfl
    · exact .inr ⟨t23, [.int x], rfl, by walk_at "hp", rfl⟩
    · exact .inl rfl
  · exact JV.flat (vs := [.int g, .int x, .str (Str.ofString (toString y))]) (by walk_at "hp") (by show (true && (true && (okV (.str (Str.ofString (toString y))) && true))) = true; rw [hst]; rfl)
  · refine JV.tup1 (vs := [.ref t]) (by walk_at "hp") (fun v hv => ?_) ⟨.ref t, by simp, rfl⟩
    simp only [List.mem_cons, List.mem_nil_iff, or_false] at hv
    subst hv
    exact .inr ⟨t, [.int g, .int x, .int y], rfl, by walk_at "hp", rfl⟩
  · refine JV.tup1 (vs := [.ref t, .int x, .int y]) (by walk_at "hp") (fun v hv => ?_) ⟨.ref t, by simp, rfl⟩
    simp only [List.mem_cons, List.mem_nil_iff, or_false] at hv
    rcases hv with rfl | rfl | rfl
    · exact .inr ⟨t, [.int g, .int x, .int y], rfl, by walk_at "hp", rfl⟩
    · exact .inl rfl
    · exact .inl rfl
def sp__law_pairs (a : AD) : Sp := fun vs H Q _ => ∃ (b q : Addr) (n : Int) (p d : Addr) (log : List Int) (xs : List V), vs = [.ref b, .int n, .ref p, .ref d] ∧ Box H b q ∧ 0 ≤ n ∧ n ≤ 60 ∧ H p = some (.lst (log.map V.int)) ∧ p ≠ b ∧ log.length ≤ 1000 ∧ okTo n (s0 n) log log.length ∧ H d = some (.lst xs) ∧ d ≠ b ∧ Tps H xs ((lostE n log).map (certT n log)) ∧ ∀ H', Box H' b q → Kp [b] H H' → Q (.bl true) H'
theorem sc__law_pairs : FnScope ["_law_bag_here", "_law_size_here", "_law_moves", "_law_losses_here", "_law_gap", "_law_place", "_law_seconds", "_law_one", "_law_first", "_law_second"] ["_law_bag_here", "_law_size_here", "_law_moves", "_law_losses_here"] (defScope s__law_pairs) := ⟨rfl, rfl, rfl, by decide +kernel, rfl, by decide +kernel, by decide +kernel⟩
theorem ok__law_pairs {P : Program} {w : World} {K : PySem.W.Frag} {mg : Str → Option Value} {base : Heap} {a : AD} (T : Txt P K mg a) (G__law_draw : FnA P w K mg base 2 a.f__law_draw ["_law_bag_here", "_law_many"] (sp__law_draw a)) (G__law_judged : FnA P w K mg base 9 a.f__law_judged ["_law_size_here", "_law_moves", "_law_losses_here", "_law_value"] (sp__law_judged a)) : FnA P w K mg base 10 a.f__law_pairs ["_law_bag_here", "_law_size_here", "_law_moves", "_law_losses_here"] (sp__law_pairs a) := by
  obtain ⟨fd, F, b⟩ := T.F__law_pairs
  refine FnA.of F sc__law_pairs b (fun vs H Q E h => by first | (obtain ⟨rfl, _⟩ := h; rfl) | (obtain ⟨_, rfl, _⟩ := h; rfl) | (obtain ⟨_, _, rfl, _⟩ := h; rfl) | (obtain ⟨_, _, _, rfl, _⟩ := h; rfl) | (obtain ⟨_, _, _, _, rfl, _⟩ := h; rfl) | (obtain ⟨_, _, _, _, _, rfl, _⟩ := h; rfl) | (obtain ⟨_, _, _, _, _, _, rfl, _⟩ := h; rfl) | (obtain ⟨_, _, _, _, _, _, _, rfl, _⟩ := h; rfl) | (obtain ⟨_, _, _, _, _, _, _, _, rfl, _⟩ := h; rfl) | (obtain ⟨_, _, _, _, _, _, _, _, _, rfl, _⟩ := h; rfl) | (obtain ⟨_, _, _, _, _, _, _, _, _, _, rfl, _⟩ := h; rfl) | (obtain ⟨_, _, _, _, _, _, _, _, _, _, _, rfl, _⟩ := h; rfl) | (obtain ⟨_, _, _, _, _, _, _, _, _, _, _, _, rfl, _⟩ := h; rfl) | (obtain ⟨_, _, _, _, _, _, _, _, _, _, _, _, _, rfl, _⟩ := h; rfl) | (obtain ⟨_, _, _, _, _, _, _, _, _, _, _, _, _, _, rfl, _⟩ := h; rfl) | (obtain ⟨_, _, _, _, _, _, _, _, _, _, _, _, _, _, _, rfl, _⟩ := h; rfl) | (obtain ⟨_, _, _, _, _, _, _, _, _, _, _, _, _, _, _, _, rfl, _⟩ := h; rfl) | (obtain ⟨_, _, _, _, _, _, _, _, _, _, _, _, _, _, _, _, _, rfl, _⟩ := h; rfl) | (obtain ⟨_, _, _, _, _, _, _, _, _, _, _, _, _, _, _, _, _, _, rfl, _⟩ := h; rfl) | (obtain ⟨_, _, _, _, _, _, _, _, _, _, _, _, _, _, _, _, _, _, _, rfl, _⟩ := h; rfl) | (obtain ⟨_, _, _, _, _, _, _, _, _, _, _, _, _, _, _, _, _, _, _, _, rfl, _⟩ := h; rfl) | (obtain ⟨_, _, _, _, _, _, _, _, _, _, _, _, _, _, _, _, _, _, _, _, _, rfl, _⟩ := h; rfl) | (obtain ⟨_, _, _, _, _, _, _, _, _, _, _, _, _, _, _, _, _, _, _, _, _, _, rfl, _⟩ := h; rfl) | (obtain ⟨_, _, _, _, _, _, _, _, _, _, _, _, _, _, _, _, _, _, _, _, _, _, _, rfl, _⟩ := h; rfl)) (fun cdv A outer s H vs Q E hr tk pz h => ?_)
  have hu := hr.units
  have hrH := L2H.roomH_of hr
  obtain ⟨b, q, n, p, d, log, xs, rfl, B, n0, n1, hp, pb, hlen, hok, hd, db, hT, k⟩ := h
  refine ⟨_, (pss_cons (ps_set (i := 4) sc__law_pairs.nd rfl (Or.inr rfl) (pe_callA G__law_draw (Room.mono hr (by decide)) T.n__law_draw tk (pa_cons (pv 0) (pa_cons (pe_op o_add (pv 1) pe_int) pa_nil))))
      (pss_cons (ps_setLc (i := 6) (own := [("_law_place", 5)]) (g := (gName 5)) (tt := tYes) rfl sc__law_pairs.nd rfl rfl (sw_true rfl rfl rfl (by decide +kernel)) (pi_range1 rfl T.b_range (pa_cons (pe_callB (b_len) rfl T.b_len (by decide +kernel) (pa_cons (pv 2) pa_nil)) pa_nil)) (blkOk_by (own := [("_law_place", 5)]) (N := ["_law_bag_here", "_law_size_here", "_law_moves", "_law_losses_here", "_law_gap", "_law_place", "_law_seconds", "_law_one", "_law_first", "_law_second"]) (sc := defScope s__law_pairs) (by decide +kernel)) (fun _ _ _ _ _ => (pg_name (i := 5) sc__law_pairs.nd rfl (Or.inl rfl))) (fun _ _ _ _ _ => pts_nil) (fun _ _ _ _ _ => (pv 5)))
      (pss_cut (ps_if (pt_cutT (PW.pt (pw_and (pt_cmpA (o_ne hu) (pv 3) (pe_lst pa_nil) (nomark _)) (pw_and1 (pt_cmpA (o_eq hu) (pe_callA G__law_draw (Room.mono hr (by decide)) T.n__law_draw tk (pa_cons (pv 0) (pa_cons pe_int pa_nil))) pe_int (nomark _)))))) (pss_one (ps_set (i := 4) sc__law_pairs.nd rfl (Or.inr rfl) (pe_ix ix_seq (pe_ix ix_seq (pv 3) (pe_callA G__law_draw (Room.mono hr (by decide)) T.n__law_draw tk (pa_cons (pv 0) (pa_cons (pe_callB (b_len) rfl T.b_len (by decide +kernel) (pa_cons (pv 3) pa_nil)) pa_nil))) (fun _ _ => rfl)) pe_int (fun _ _ => rfl)))) pss_nil)
      (pss_cut (ps_if (pt_cmpA op_gt (pe_callB (b_len) rfl T.b_len (by decide +kernel) (pa_cons (pv 2) pa_nil)) pe_int (nomark _)) (pss_one (ps_setLc (i := 6) (own := [("_law_one", 7)]) (g := (gName 7)) rfl sc__law_pairs.nd rfl rfl (sw_true rfl rfl rfl (by decide +kernel)) (pi_list (pv 3)) (blkOk_by (own := [("_law_one", 7)]) (N := ["_law_bag_here", "_law_size_here", "_law_moves", "_law_losses_here", "_law_gap", "_law_place", "_law_seconds", "_law_one", "_law_first", "_law_second"]) (sc := defScope s__law_pairs) (by decide +kernel)) (fun _ _ _ _ _ => (pg_name (i := 7) sc__law_pairs.nd rfl (Or.inl rfl))) (fun _ _ _ _ _ => (pts_one (pt_cmpA (show OpR _ _ (aEq K) from (o_eq hu)) (pe_ix (show IxR _ (rIx K) from ix_seq) (pv 7) pe_int (fun _ _ => rfl)) (pv 4) (nomark _)))) (fun _ _ _ _ _ => (pe_ix (show IxR _ (rIx K) from ix_seq) (pv 7) pe_int (fun _ _ => rfl))))) pss_nil)
      (pss_cons (ps_for pz rfl (pi_range1 rfl T.b_range (pa_cons (pe_callB (b_len) rfl T.b_len (by decide +kernel) (pa_cons (pv 2) pa_nil)) pa_nil)) (pg_name (i := 8) sc__law_pairs.nd rfl (Or.inl rfl))
      (pss_one (ps_for pz rfl (pi_list (pv 6)) (pg_name (i := 9) sc__law_pairs.nd rfl (Or.inl rfl))
      (pss_one (ps_if (pt_not (pt_tru (pe_callA G__law_judged (Room.mono hr (by decide)) T.n__law_judged tk (pa_cons (pv 1) (pa_cons (pv 2) (pa_cons (pv 3) (pa_cons (pe_tup (pa_cons (pv 4) (pa_cons (pv 8) (pa_cons (pv 9) pa_nil)))) pa_nil))))))) (pss_one (ps_ret pe_bl)) pss_nil)))))
      (pss_one (ps_ret pe_bl))))))), ?_⟩
  show (_ : Ends → L2.St → Hp → Prop) _ [some _, some _, some _, some _, none, none, none, none, none, none] _
  try dsimp only [L2H.cxH, cxOf]
  have hbl : ∃ o, H b = some o := B.live b (by simp)
  have bm : ∀ {H' : Hp}, Box H' b q → ∀ m ∈ [b], ∃ ys, H' m = some (.lst ys) := fun B m hm => by
    rw [List.mem_singleton.mp hm]
    obtain ⟨ns, i, big, st, c, hb, _⟩ := B
    exact ⟨_, hb⟩
  have hlx := hT.len
  rw [List.length_map] at hlx
  have hll : (lostE n log).length ≤ (n + 1).toNat := lostF_len n (runS (s0 n) log).1 (runS (s0 n) log).2.1
  walk_at "w"
  refine ⟨b, q, _, rfl, B, by omega, by omega, fun gp H1 g0 g1 B1 k1 => ?_⟩
  have hp1 := k1 p _ hp (by simpa using pb)
  have hd1 := k1 d _ hd (by simpa using db)
  have hT1 := hT.kpm k1 (bm B)
  walk_at "w"
  refine w_lcR1 (f' := V.int) (fun i : Nat => some (i : Int)) (n := (log.length : Int)) (by omega) (by omega) (by rw [sizeLine_eq]; omega) ?_ ?_
  · intro D i acc H' hD hi hk hA hlen
    walk_at "w"
    refine ⟨rfl, ?_⟩
    walk_at "w"
    exact w_keep hk hA hlen hD rfl
  intro sc H2 hsc k2 hsc2
  rw [fm_some] at hsc2
  have hsl : ((List.range (log.length : Int).toNat).map fun i : Nat => (i : Int)).length ≤ 1000 := by simp; omega
  generalize (List.range (log.length : Int).toNat).map (fun i : Nat => (i : Int)) = ss at hsc2 hsl
  have scb := B1.b hsc
  have B2 := B1.kp k2
  have k02 := k1.trans0 k2
  have hp2 := k2.at0 hp1
  have hd2 := k2.at0 hd1
  have hT2 := hT1.kp0 k2
  clear hp1 hd1 hT1 hsc k2 k1
  walk_at "w"
  refine s_cut (fun σ' H' => ∃ (gp : Int) (z5 : Option V), σ' = [some (.ref b), some (.int n), some (.ref p), some (.ref d), some (.int gp), z5, some (.ref sc), none, none, none] ∧ Box H' b q ∧ Kp [b] H2 H') ?_ ?_
  · walk_at "w"
    refine s_cutTG (fun b1 H' => Box H' b q ∧ Kp [b] H2 H' ∧ (b1 = true → lostE n log ≠ [])) ?_ ?_
    · walk_at "w"
      intro t ht
      refine w_neLoss (upd_new ht hd2) (hT2.new ht) upd_same ?_
      have kt := Kp.refl.new (ms := [b]) (o := .lst []) ht
      have B3 := B2.new (o := .lst []) ht
      generalize upd H2 t (.lst []) = H3 at kt B3 ⊢
      walk_at "w"
      refine w_iteN (fun c => ?_) (fun c => ?_)
      · walk_at "w"
        refine ⟨b, q, _, rfl, B3, by omega, by omega, fun x H4 x0 x1 B4 k4 => ?_⟩
        walk_at "w"
        exact ⟨B4, kt.trans k4, fun _ => c⟩
      · walk_at "w"
        exact ⟨B3, kt, fun z => by cases z⟩
    rintro b1 H3 ⟨B3, k3, hne⟩
    cases b1 with
    | false =>
      walk_at "w"
      exact ⟨_, _, rfl, B3, k3⟩
    | true =>
      have hpos : 0 < (lostE n log).length := List.length_pos_iff.mpr (hne rfl)
      have hd3 := k3 d _ hd2 (by simpa using db)
      have hT3 := hT2.kpm k3 (bm B2)
      walk_at "w"
      refine ⟨b, q, _, rfl, B3, by omega, by omega, fun x H4 x0 x1 B4 k4 => ?_⟩
      have hd4 := k4 d _ hd3 (by simpa using db)
      have hT4 := hT3.kpm k4 (bm B3)
      obtain ⟨y, e1, e2⟩ := hT4.get (k := x.toNat) (p := certT n log ((lostE n log)[x.toNat]'(by omega))) (by rw [List.getElem?_map, List.getElem?_eq_getElem (by omega)]; rfl)
      refine w_ixL hd4 x0 e1 ?_
      walk_at "w"
      exact ⟨_, _, rfl, B4, k3.trans k4⟩
  rintro σ' H3 ⟨gp', z5, rfl, B3, k3⟩
  have hp3 := k3 p _ hp2 (by simpa using pb)
  have hd3 := k3 d _ hd2 (by simpa using db)
  have hT3 := hT2.kpm k3 (bm B2)
  have hsc3 := k3 sc _ hsc2 (by simpa using scb)
  have k03 := k02.trans k3
  clear hp2 hd2 hT2 hsc2 k3 B2
  walk_at "w"
  refine s_cut (fun σ' H' => ∃ (sc : Addr) (ss : List Int) (z7 : Option V), σ' = [some (.ref b), some (.int n), some (.ref p), some (.ref d), some (.int gp'), z5, some (.ref sc), z7, none, none] ∧ H' sc = some (.lst (ss.map V.int)) ∧ ss.length ≤ 1000 ∧ Kp [] H3 H') ?_ ?_
  · walk_at "w"
    refine w_ite (fun c => ?_) (fun c => ?_)
    · walk_at "w"
      have hdm : H3 d = some (.lst (xs.map fun v => v)) := by rw [List.map_id']; exact hd3
      refine w_lcMG (f := fun v => v) (fun D i acc H' => ∃ ws : List Int, acc = ws.map V.int) hdm (fun D hD => ⟨[], rfl⟩) ?_ ?_
      · rintro D i u acc H' hD hu hlen' hk hA ⟨ws, rfl⟩
        obtain ⟨r, pr, rfl, e1, e2⟩ := (hT3.kp0 hk).getX hu
        rw [List.getElem?_map] at e1
        obtain ⟨g, hg, rfl⟩ := Option.map_eq_some_iff.mp e1
        have hil : i < xs.length := (List.getElem?_eq_some_iff.mp hu).1
        unfold certT at e2
        walk_at "w"
        refine ⟨rfl, ?_⟩
        walk_at "w"
        refine w_ite (fun c => ?_) (fun c => ?_)
        · walk_at "w"
          exact w_keepG hk hA hlen' (by rw [sizeLine_eq]; omega) hD ⟨ws ++ [secF n log g], by rw [List.map_append]; rfl⟩
        · walk_at "w"
          exact w_dropG hk hA hlen' ⟨ws, rfl⟩
      · rintro D acc H4 hD hal k4 hD4 ⟨ws, rfl⟩
        rw [List.length_map] at hal
        walk_at "w"
        exact ⟨D, ws, _, rfl, hD4, by omega, k4⟩
    · walk_at "w"
      exact ⟨sc, ss, _, rfl, hsc3, hsl, Kp.refl⟩
  rintro σ' H4 ⟨sc, ss, z7, rfl, hsc4, hsl, k4⟩
  have hp4 := k4.at0 hp3
  have hd4 := k4.at0 hd3
  have hT4 := hT3.kp0 k4
  have B4 := B3.kp k4
  have k04 := k03.trans0 k4
  clear hp3 hd3 hT3 hsc3 k03 k4 B3
  walk_at "w"
  refine w_rng1 (n := (log.length : Int)) (by omega) (by omega) (fun i σ' H' => (∃ z7 z8 z9, σ' = [some (.ref b), some (.int n), some (.ref p), some (.ref d), some (.int gp'), z5, some (.ref sc), z7, z8, z9]) ∧ Kp [] H4 H') ⟨⟨_, _, _, rfl⟩, Kp.refl⟩ ?_ ?_
  · rintro i σ' H5 hi ⟨⟨z7, z8, z9, rfl⟩, k5⟩
    walk_at "w"
    refine w_forM (us := ss) (f := V.int) (p := sc) (k5.at0 hsc4) (fun j σ' H' => (∃ z7 z9, σ' = [some (.ref b), some (.int n), some (.ref p), some (.ref d), some (.int gp'), z5, some (.ref sc), z7, some (.int (i : Int)), z9]) ∧ Kp [] H4 H') ⟨⟨_, _, rfl⟩, k5⟩ (fun j σ' H' _ h => h.2.at0 hsc4) ?_ ?_
    · rintro j u σ' H6 hu ⟨⟨z7, z9, rfl⟩, k6⟩
      walk_at "w"
      intro T hT
      have k7 := k6.new (o := .tup [.int gp', .int (i : Int), .int u]) hT
      refine ⟨n, p, d, log, xs, .ref T, _, rfl, n0, n1, k7.at0 hp4, hlen, hok, k7.at0 hd4, hT4.kp0 k7, .tri gp' (i : Int) u upd_same, fun H8 k8 => ?_⟩
      walk_at "w"
      exact ⟨⟨_, _, rfl⟩, k7.trans0 k8⟩
    · rintro σ' H6 ⟨⟨z7, z9, rfl⟩, k6⟩
      walk_at "w"
      exact ⟨⟨_, _, _, rfl⟩, k6⟩
  · rintro σ' H5 ⟨⟨z7, z8, z9, rfl⟩, k5⟩
    walk_at "w"
    exact k H5 (B4.kp k5) (k04.trans0 k5)
def sp__law_values_fit (a : AD) : Sp := fun vs H Q _ => ∃ (b q : Addr) (n : Int) (p : Addr) (log : List Int), vs = [.ref b, .int n, .ref p] ∧ Box H b q ∧ 0 ≤ n ∧ n ≤ 60 ∧ H p = some (.lst (log.map V.int)) ∧ p ≠ b ∧ log.length ≤ 1000 ∧ okTo n (s0 n) log log.length ∧ ∀ H', Box H' b q → Kp [b] H H' → Q (.bl true) H'
theorem sc__law_values_fit : FnScope ["_law_bag_here", "_law_size_here", "_law_moves", "_law_losses_here", "_law_handed", "_law_triple", "_law_values_here", "_law_value"] ["_law_bag_here", "_law_size_here", "_law_moves"] (defScope s__law_values_fit) := ⟨rfl, rfl, rfl, by decide +kernel, rfl, by decide +kernel, by decide +kernel⟩
theorem ok__law_values_fit {P : Program} {w : World} {K : PySem.W.Frag} {mg : Str → Option Value} {base : Heap} {a : AD} (T : Txt P K mg a) (G__law_losses : FnA P w K mg base 3 a.f__law_losses ["_law_size_here", "_law_moves"] (sp__law_losses a)) (G__law_draw : FnA P w K mg base 2 a.f__law_draw ["_law_bag_here", "_law_many"] (sp__law_draw a)) (G__law_values : FnA P w K mg base 3 a.f__law_values ["_law_triple"] (sp__law_values a)) (G__law_judged : FnA P w K mg base 9 a.f__law_judged ["_law_size_here", "_law_moves", "_law_losses_here", "_law_value"] (sp__law_judged a)) (G__law_pairs : FnA P w K mg base 10 a.f__law_pairs ["_law_bag_here", "_law_size_here", "_law_moves", "_law_losses_here"] (sp__law_pairs a)) : FnA P w K mg base 11 a.f__law_values_fit ["_law_bag_here", "_law_size_here", "_law_moves"] (sp__law_values_fit a) := by
  obtain ⟨fd, F, b⟩ := T.F__law_values_fit
  refine FnA.of F sc__law_values_fit b (fun vs H Q E h => by first | (obtain ⟨rfl, _⟩ := h; rfl) | (obtain ⟨_, rfl, _⟩ := h; rfl) | (obtain ⟨_, _, rfl, _⟩ := h; rfl) | (obtain ⟨_, _, _, rfl, _⟩ := h; rfl) | (obtain ⟨_, _, _, _, rfl, _⟩ := h; rfl) | (obtain ⟨_, _, _, _, _, rfl, _⟩ := h; rfl) | (obtain ⟨_, _, _, _, _, _, rfl, _⟩ := h; rfl) | (obtain ⟨_, _, _, _, _, _, _, rfl, _⟩ := h; rfl) | (obtain ⟨_, _, _, _, _, _, _, _, rfl, _⟩ := h; rfl) | (obtain ⟨_, _, _, _, _, _, _, _, _, rfl, _⟩ := h; rfl) | (obtain ⟨_, _, _, _, _, _, _, _, _, _, rfl, _⟩ := h; rfl) | (obtain ⟨_, _, _, _, _, _, _, _, _, _, _, rfl, _⟩ := h; rfl) | (obtain ⟨_, _, _, _, _, _, _, _, _, _, _, _, rfl, _⟩ := h; rfl) | (obtain ⟨_, _, _, _, _, _, _, _, _, _, _, _, _, rfl, _⟩ := h; rfl) | (obtain ⟨_, _, _, _, _, _, _, _, _, _, _, _, _, _, rfl, _⟩ := h; rfl) | (obtain ⟨_, _, _, _, _, _, _, _, _, _, _, _, _, _, _, rfl, _⟩ := h; rfl) | (obtain ⟨_, _, _, _, _, _, _, _, _, _, _, _, _, _, _, _, rfl, _⟩ := h; rfl) | (obtain ⟨_, _, _, _, _, _, _, _, _, _, _, _, _, _, _, _, _, rfl, _⟩ := h; rfl) | (obtain ⟨_, _, _, _, _, _, _, _, _, _, _, _, _, _, _, _, _, _, rfl, _⟩ := h; rfl) | (obtain ⟨_, _, _, _, _, _, _, _, _, _, _, _, _, _, _, _, _, _, _, rfl, _⟩ := h; rfl) | (obtain ⟨_, _, _, _, _, _, _, _, _, _, _, _, _, _, _, _, _, _, _, _, rfl, _⟩ := h; rfl) | (obtain ⟨_, _, _, _, _, _, _, _, _, _, _, _, _, _, _, _, _, _, _, _, _, rfl, _⟩ := h; rfl) | (obtain ⟨_, _, _, _, _, _, _, _, _, _, _, _, _, _, _, _, _, _, _, _, _, _, rfl, _⟩ := h; rfl) | (obtain ⟨_, _, _, _, _, _, _, _, _, _, _, _, _, _, _, _, _, _, _, _, _, _, _, rfl, _⟩ := h; rfl)) (fun cdv A outer s H vs Q E hr tk pz h => ?_)
  have hu := hr.units
  have hrH := L2H.roomH_of hr
  obtain ⟨b, q, n, p, log, rfl, B, n0, n1, hp, pb, hlen, hok, k⟩ := h
  refine ⟨_, (pss_cons (ps_set (i := 3) sc__law_values_fit.nd rfl (Or.inl rfl) (pe_callA G__law_losses (Room.mono hr (by decide)) T.n__law_losses tk (pa_cons (pv 1) (pa_cons (pv 2) pa_nil))))
      (pss_cons (ps_set (i := 4) sc__law_values_fit.nd rfl (Or.inl rfl) (pe_callTy b_list rfl T.b_list (by decide +kernel) (pa_cons (pv 2) pa_nil)))
      (pss_cons (ps_set (i := 5) sc__law_values_fit.nd rfl (Or.inl rfl) (pe_tup (pa_cons (pe_callA G__law_draw (Room.mono hr (by decide)) T.n__law_draw tk (pa_cons (pv 0) (pa_cons (pe_op o_add (pv 1) pe_int) pa_nil))) (pa_cons pe_int (pa_cons (pe_callB (b_len) rfl T.b_len (by decide +kernel) (pa_cons (pv 2) pa_nil)) pa_nil)))))
      (pss_cut (ps_if (pt_cmpA (o_ne hu) (pv 3) (pe_lst pa_nil) (nomark _)) (pss_one (ps_set (i := 5) sc__law_values_fit.nd rfl (Or.inl rfl) (pe_ix ix_seq (pv 3) (pe_callA G__law_draw (Room.mono hr (by decide)) T.n__law_draw tk (pa_cons (pv 0) (pa_cons (pe_callB (b_len) rfl T.b_len (by decide +kernel) (pa_cons (pv 3) pa_nil)) pa_nil))) (fun _ _ => rfl)))) pss_nil)
      (pss_cons (ps_set (i := 6) sc__law_values_fit.nd rfl (Or.inl rfl) (pe_callA G__law_values (Room.mono hr (by decide)) T.n__law_values tk (pa_cons (pv 5) pa_nil)))
      (pss_cut (ps_if (pt_cmpA op_gt (pv 1) pe_int (nomark _)) (pss_one (ps_set (i := 6) sc__law_values_fit.nd rfl (Or.inl rfl) (pe_slSt (pv 6) (po_some (pe_callA G__law_draw (Room.mono hr (by decide)) T.n__law_draw tk (pa_cons (pv 0) (pa_cons pe_int pa_nil))))))) pss_nil)
      (pss_cons (ps_for pz rfl (pi_list (pe_op o_add (pv 6) (pv 3))) (pg_name (i := 7) sc__law_values_fit.nd rfl (Or.inl rfl))
      (pss_one (ps_if (pt_not (pt_tru (pe_callA G__law_judged (Room.mono hr (by decide)) T.n__law_judged tk (pa_cons (pv 1) (pa_cons (pv 4) (pa_cons (pv 3) (pa_cons (pv 7) pa_nil))))))) (pss_one (ps_ret pe_bl)) pss_nil)))
      (pss_one (ps_ret (pe_and (pe_callA G__law_pairs (Room.mono hr (by decide)) T.n__law_pairs tk (pa_cons (pv 0) (pa_cons (pv 1) (pa_cons (pv 4) (pa_cons (pv 3) pa_nil))))) (pe_one (pe_cmpR (o_eq hu) (pv 4) (pv 2) (nomark _))))))))))))), ?_⟩
  show (_ : Ends → L2.St → Hp → Prop) _ [some _, some _, some _, none, none, none, none, none] _
  try dsimp only [L2H.cxH, cxOf]
  have bm : ∀ {H' : Hp}, Box H' b q → ∀ m ∈ [b], ∃ ys, H' m = some (.lst ys) := fun B m hm => by
    rw [List.mem_singleton.mp hm]
    obtain ⟨ns, i, big, st, c, hb, _⟩ := B
    exact ⟨_, hb⟩
  have hll : (lostE n log).length ≤ (n + 1).toNat := lostF_len n (runS (s0 n) log).1 (runS (s0 n) log).2.1
  walk_at "w"
  refine ⟨n, p, log, rfl, n0, n1, hp, hlen, hok, fun d xs H1 hd k1 hd1 hT1 => ?_⟩
  have db := B.b hd
  have B1 := B.kp k1
  have hp1 := k1.at0 hp
  have hlx := hT1.len
  rw [List.length_map] at hlx
  walk_at "w"
  intro h hh
  have kh := Kp.refl.new (ms := []) (o := .lst (log.map V.int)) hh
  have hh2 : upd H1 h (.lst (log.map V.int)) h = some (.lst (log.map V.int)) := upd_same
  have hb := B1.b hh
  generalize upd H1 h (.lst (log.map V.int)) = H2 at kh hh2 ⊢
  have B2 := B1.kp kh
  have hp2 := kh.at0 hp1
  have hd2 := kh.at0 hd1
  have hT2 := hT1.kp0 kh
  have k02 := (k1.trans0 kh).mono (ns := [b]) (by simp)
  clear hp1 hd1 hT1 hd k1 B1 hh kh
  walk_at "w"
  refine ⟨b, q, _, rfl, B2, by omega, by omega, fun gp H3 g0 g1 B3 k3 => ?_⟩
  have hp3 := k3 p _ hp2 (by simpa using pb)
  have hd3 := k3 d _ hd2 (by simpa using db)
  have hh3 := k3 h _ hh2 (by simpa using hb)
  have hT3 := hT2.kpm k3 (bm B2)
  have k03 := k02.trans k3
  clear hp2 hd2 hT2 k02 k3 B2 hh2
  walk_at "w"
  intro t0 ht0
  have kt := Kp.refl.new (ms := []) (o := .tup [.int gp, .int 0, .int (log.length : Int)]) ht0
  have ht4 : upd H3 t0 (.tup [.int gp, .int 0, .int (log.length : Int)]) t0 = some (.tup [.int gp, .int 0, .int (log.length : Int)]) := upd_same
  generalize upd H3 t0 (.tup [.int gp, .int 0, .int (log.length : Int)]) = H4 at kt ht4 ⊢
  have B4 := B3.kp kt
  have hp4 := kt.at0 hp3
  have hd4 := kt.at0 hd3
  have hh4 := kt.at0 hh3
  have hT4 := hT3.kp0 kt
  have k04 := k03.trans0 kt
  clear hp3 hd3 hT3 k03 kt B3 hh3 ht0
  walk_at "w"
  refine s_cut (fun σ' H' => ∃ (t : Addr) (g x y : Int), σ' = [some (.ref b), some (.int n), some (.ref p), some (.ref d), some (.ref h), some (.ref t), none, none] ∧ H' t = some (.tup [.int g, .int x, .int y]) ∧ 0 ≤ y ∧ y ≤ 1000 ∧ Box H' b q ∧ Kp [b] H4 H') ?_ ?_
  · walk_at "w"
    intro t ht
    refine w_neLoss (upd_new ht hd4) (hT4.new ht) upd_same ?_
    have kt := Kp.refl.new (ms := [b]) (o := .lst []) ht
    have B5 := B4.new (o := .lst []) ht
    have ht5 := upd_new (o := .lst []) ht ht4
    have hd5 := upd_new (o := .lst []) ht hd4
    have hT5 := hT4.new (o := .lst []) ht
    generalize upd H4 t (.lst []) = H5 at kt B5 ht5 hd5 hT5 ⊢
    walk_at "w"
    refine w_iteN (fun c => ?_) (fun c => ?_)
    · have hpos : 0 < (lostE n log).length := List.length_pos_iff.mpr c
      walk_at "w"
      refine ⟨b, q, _, rfl, B5, by omega, by omega, fun x H6 x0 x1 B6 k6 => ?_⟩
      have hd6 := k6 d _ hd5 (by simpa using db)
      have hT6 := hT5.kpm k6 (bm B5)
      have hgm : (lostE n log)[x.toNat]'(by omega) ∈ lostE n log := List.getElem_mem _
      obtain ⟨y, e1, e2⟩ := hT6.get (k := x.toNat) (p := certT n log ((lostE n log)[x.toNat]'(by omega))) (by rw [List.getElem?_map, List.getElem?_eq_getElem (by omega)]; rfl)
      generalize (lostE n log)[x.toNat]'(by omega) = g at e2 hgm
      obtain ⟨z0, z1, hl⟩ := lostF_mem.mp hgm
      have hl : stAt (s0 n) log log.length g = ("lost" : Str) := by unfold stAt; rw [List.take_length]; exact hl
      obtain ⟨c1, c2, c3, _⟩ := cert_ok n0 n1 hok z0 z1 hl
      refine w_ixL hd6 x0 e1 ?_
      walk_at "w"
      exact ⟨y, g, _, _, rfl, e2, by omega, by omega, B6, kt.trans k6⟩
    · walk_at "w"
      exact ⟨t0, gp, 0, _, rfl, ht5, by omega, by omega, B5, kt⟩
  rintro σ' H5 ⟨t, g, x, y, rfl, ht5, y0, y1, B5, k5⟩
  have hp5 := k5 p _ hp4 (by simpa using pb)
  have hd5 := k5 d _ hd4 (by simpa using db)
  have hh5 := k5 h _ hh4 (by simpa using hb)
  have hT5 := hT4.kpm k5 (bm B4)
  have k05 := k04.trans k5
  clear hp4 hd4 hT4 k04 k5 B4 hh4 ht4
  walk_at "w"
  refine ⟨t, g, x, y, rfl, ht5, y0, by omega, fun vp ws H6 hvp k6 hvp6 hwl hJ => ?_⟩
  have B6 := B5.kp k6
  have hp6 := k6.at0 hp5
  have hd6 := k6.at0 hd5
  have hh6 := k6.at0 hh5
  have hT6 := hT5.kp0 k6
  have k06 := k05.trans0 k6
  have vpb := B5.b hvp
  clear hp5 hd5 hT5 k05 k6 B5 hh5 ht5 hvp
  walk_at "w"
  refine s_cut (fun σ' H' => ∃ (vp : Addr) (ws : List V), σ' = [some (.ref b), some (.int n), some (.ref p), some (.ref d), some (.ref h), some (.ref t), some (.ref vp), none] ∧ H' vp = some (.lst ws) ∧ ws.length ≤ 40 ∧ (∀ v ∈ ws, ∃ o, JV H' v o) ∧ Box H' b q ∧ Kp [b] H6 H') ?_ ?_
  · walk_at "w"
    refine w_ite (fun c => ?_) (fun c => ?_)
    · walk_at "w"
      refine ⟨b, q, _, rfl, B6, by omega, by omega, fun r H7 r0 r1 B7 k7 => ?_⟩
      have hvp7 := k7 vp _ hvp6 (by simpa using vpb)
      walk_at "w"
      refine ⟨vp, ws, rfl, SqL.of hvp7, fun ys hys hyl v2 hv2 => ?_⟩
      walk_at "w"
      exact ⟨v2, ys, rfl, upd_same, by omega, fun v hv => by
        obtain ⟨o, ho⟩ := hJ v (hys v hv)
        exact ⟨o, (ho.kpB B6 k7).kp0 (Kp.refl.new hv2)⟩, B7.new hv2, k7.new hv2⟩
    · walk_at "w"
      exact ⟨vp, ws, rfl, hvp6, hwl, hJ, B6, Kp.refl⟩
  rintro σ' H7 ⟨vp, ws, rfl, hvp7, hwl, hJ, B7, k7⟩
  have hp7 := k7 p _ hp6 (by simpa using pb)
  have hd7 := k7 d _ hd6 (by simpa using db)
  have hh7 := k7 h _ hh6 (by simpa using hb)
  have hT7 := hT6.kpm k7 (bm B6)
  have k07 := k06.trans k7
  clear hp6 hd6 hT6 k06 k7 B6 hh6 hvp6
  have hJ2 : ∀ v ∈ xs, ∃ o, JV H7 v o := by
    intro v hv
    obtain ⟨i, hi, rfl⟩ := List.mem_iff_getElem.mp hv
    obtain ⟨r, pr, e0, e1, e2⟩ := hT7.getX (k := i) (List.getElem?_eq_getElem hi)
    rw [List.getElem?_map] at e1
    obtain ⟨g, hg, rfl⟩ := Option.map_eq_some_iff.mp e1
    rw [e0]
    exact ⟨_, .tri _ _ _ e2⟩
  walk_at "w"
  intro u hu
  have ku := Kp.refl.new (ms := []) (o := .lst (ws ++ xs)) hu
  have hu8 : upd H7 u (.lst (ws ++ xs)) u = some (.lst ((ws ++ xs).map fun v => v)) := by rw [List.map_id']; exact upd_same
  generalize upd H7 u (.lst (ws ++ xs)) = H8 at ku hu8 ⊢
  have hJ8 : ∀ v ∈ ws ++ xs, ∃ o, JV H8 v o := by
    intro v hv
    rcases List.mem_append.mp hv with c | c
    · obtain ⟨o, ho⟩ := hJ v c
      exact ⟨o, ho.kp0 ku⟩
    · obtain ⟨o, ho⟩ := hJ2 v c
      exact ⟨o, ho.kp0 ku⟩
  have B8 := B7.kp ku
  have hp8 := ku.at0 hp7
  have hd8 := ku.at0 hd7
  have hh8 := ku.at0 hh7
  have hT8 := hT7.kp0 ku
  have k08 := k07.trans0 ku
  clear hp7 hd7 hT7 k07 ku B7 hh7 hvp7 hJ hJ2 hu
  refine w_forM (us := ws ++ xs) (f := fun v => v) (p := u) hu8 (fun i σ' H' => (∃ z7, σ' = [some (.ref b), some (.int n), some (.ref p), some (.ref d), some (.ref h), some (.ref t), some (.ref vp), z7]) ∧ Kp [] H8 H') ⟨⟨_, rfl⟩, Kp.refl⟩ (fun i σ' H' _ h => h.2.at0 hu8) ?_ ?_
  · rintro i v σ' H9 hv ⟨⟨z7, rfl⟩, k9⟩
    obtain ⟨o, ho⟩ := hJ8 v (List.mem_of_getElem? hv)
    walk_at "w"
    refine ⟨n, h, d, log, xs, v, o, rfl, n0, n1, k9.at0 hh8, hlen, hok, k9.at0 hd8, hT8.kp0 k9, ho.kp0 k9, fun H10 k10 => ?_⟩
    walk_at "w"
    exact ⟨⟨_, rfl⟩, k9.trans0 k10⟩
  · rintro σ' H9 ⟨⟨z7, rfl⟩, k9⟩
    have hh9 := k9.at0 hh8
    have hp9 := k9.at0 hp8
    walk_at "w"
    refine ⟨b, q, n, h, d, log, xs, rfl, B8.kp k9, n0, n1, hh9, hb, hlen, hok, k9.at0 hd8, db, hT8.kp0 k9, fun H10 B10 k10 => ?_⟩
    have hh10 := k10 h _ hh9 (by simpa using hb)
    have hp10 := k10 p _ hp9 (by simpa using pb)
    walk_at "w"
    rw [show decide (log = log) = true by simp]
    exact k H10 B10 ((k08.trans0 k9).trans k10)
/-! ### refusals -/
theorem cut_back {α : Type} {xs : List α} {i : Int} (i0 : 0 ≤ i) (i1 : i ≤ xs.length) : cut xs (some i) none = xs.drop i.toNat := by
  unfold cut HT.sIx
  dsimp only
  rw [if_neg (by omega), Nat.min_eq_left (by omega), List.take_of_length_le (by rw [List.length_drop]; omega)]
def RefO (n : Int) (log : List Int) (x : Str) (i j : Int) : Prop := ∀ md H row, Tld n log md H row → row = [.str x, .int i, .int j]
theorem refO_size {n : Int} {log : List Int} (h : ¬(0 ≤ n ∧ n ≤ 60)) : RefO n log "size" n 0 := by
  intro md H row t
  cases t with
  | size => rfl
  | op _ _ a b => exact absurd ⟨a, b⟩ h
  | ill _ _ a b => exact absurd ⟨a, b⟩ h
  | no a b => exact absurd ⟨a, b⟩ h
  | made a b => exact absurd ⟨a, b⟩ h
  | jud a b => exact absurd ⟨a, b⟩ h
theorem refO_op {n : Int} {log : List Int} {i : Nat} {o : Int} (n0 : 0 ≤ n) (n1 : n ≤ 60) (b : BadIx n log i o) (h : ¬IsOp n o) : RefO n log "operation" o i := by
  intro md H row t
  cases t with
  | size c => exact absurd ⟨n0, n1⟩ c
  | op j u _ _ b2 => obtain ⟨rfl, rfl⟩ := badIx_un b b2; rfl
  | ill j u _ _ b2 h2 => obtain ⟨rfl, rfl⟩ := badIx_un b b2; exact absurd h2 h
  | no _ _ k => exact (badIx_no k b).elim
  | made _ _ k => exact (badIx_no k b).elim
  | jud _ _ k => exact (badIx_no k b).elim
theorem refO_ill {n : Int} {log : List Int} {i : Nat} {o : Int} (n0 : 0 ≤ n) (n1 : n ≤ 60) (b : BadIx n log i o) (h : IsOp n o) : RefO n log "illegal" o i := by
  intro md H row t
  cases t with
  | size c => exact absurd ⟨n0, n1⟩ c
  | op j u _ _ b2 h2 => obtain ⟨rfl, rfl⟩ := badIx_un b b2; exact absurd h h2
  | ill j u _ _ b2 h2 => obtain ⟨rfl, rfl⟩ := badIx_un b b2; rfl
  | no _ _ k => exact (badIx_no k b).elim
  | made _ _ k => exact (badIx_no k b).elim
  | jud _ _ k => exact (badIx_no k b).elim
/-- a log with a wrong operation at a place -/
theorem badIx_put {n : Int} {log rest : List Int} {c : Nat} {o : Int} (hok : okTo n (s0 n) log log.length) (hc : c ≤ log.length) (h : ¬OkAt n (runS (s0 n) (log.take c)) o) : BadIx n (log.take c ++ [o] ++ rest) c o := by
  have hl : (log.take c).length = c := by rw [List.length_take]; omega
  refine ⟨?_, fun j u hj hu => ?_, ?_⟩
  · rw [List.append_assoc, List.getElem?_append_right (by omega), hl, Nat.sub_self]; rfl
  · rw [List.append_assoc, List.getElem?_append_left (by omega), List.getElem?_take_of_lt hj] at hu
    rw [List.append_assoc, List.take_append_of_le_length (by omega), List.take_take, Nat.min_eq_left (by omega)]
    exact hok j u (by omega) hu
  · rw [List.append_assoc, List.take_append_of_le_length (by omega), List.take_take, Nat.min_self]
    exact h
def sp__law_both_refuse (a : AD) : Sp := fun vs H Q _ => ∃ (n : Int) (p : Addr) (log : List Int) (x : Str) (i j : Int), vs = [.int n, .ref p, .str x, .int i, .int j] ∧ H p = some (.lst (log.map V.int)) ∧ log.length ≤ 100000 ∧ RefO n log x i j ∧ ∀ H', Kp [] H H' → Q (.bl true) H'
theorem sc__law_both_refuse : FnScope ["_law_size_here", "_law_moves", "_law_word", "_law_first", "_law_second"] ["_law_size_here", "_law_moves", "_law_word", "_law_first", "_law_second"] (defScope s__law_both_refuse) := ⟨rfl, rfl, rfl, by decide +kernel, rfl, by decide +kernel, by decide +kernel⟩
theorem ok__law_both_refuse {P : Program} {w : World} {K : PySem.W.Frag} {mg : Str → Option Value} {base : Heap} {a : AD} (T : Txt P K mg a) (G__law_fits : FnA P w K mg base 3 a.f__law_fits ["_law_told_here", "_law_word", "_law_first", "_law_second"] (sp__law_fits a)) (G__law_told : FnA P w K mg base 8 a.f__law_told ["_law_asks", "_law_size_here", "_law_moves", "_law_value"] (sp__law_told a)) : FnA P w K mg base 9 a.f__law_both_refuse ["_law_size_here", "_law_moves", "_law_word", "_law_first", "_law_second"] (sp__law_both_refuse a) := by
  obtain ⟨fd, F, b⟩ := T.F__law_both_refuse
  refine FnA.of F sc__law_both_refuse b (fun vs H Q E h => by first | (obtain ⟨rfl, _⟩ := h; rfl) | (obtain ⟨_, rfl, _⟩ := h; rfl) | (obtain ⟨_, _, rfl, _⟩ := h; rfl) | (obtain ⟨_, _, _, rfl, _⟩ := h; rfl) | (obtain ⟨_, _, _, _, rfl, _⟩ := h; rfl) | (obtain ⟨_, _, _, _, _, rfl, _⟩ := h; rfl) | (obtain ⟨_, _, _, _, _, _, rfl, _⟩ := h; rfl) | (obtain ⟨_, _, _, _, _, _, _, rfl, _⟩ := h; rfl) | (obtain ⟨_, _, _, _, _, _, _, _, rfl, _⟩ := h; rfl) | (obtain ⟨_, _, _, _, _, _, _, _, _, rfl, _⟩ := h; rfl) | (obtain ⟨_, _, _, _, _, _, _, _, _, _, rfl, _⟩ := h; rfl) | (obtain ⟨_, _, _, _, _, _, _, _, _, _, _, rfl, _⟩ := h; rfl) | (obtain ⟨_, _, _, _, _, _, _, _, _, _, _, _, rfl, _⟩ := h; rfl) | (obtain ⟨_, _, _, _, _, _, _, _, _, _, _, _, _, rfl, _⟩ := h; rfl) | (obtain ⟨_, _, _, _, _, _, _, _, _, _, _, _, _, _, rfl, _⟩ := h; rfl) | (obtain ⟨_, _, _, _, _, _, _, _, _, _, _, _, _, _, _, rfl, _⟩ := h; rfl) | (obtain ⟨_, _, _, _, _, _, _, _, _, _, _, _, _, _, _, _, rfl, _⟩ := h; rfl) | (obtain ⟨_, _, _, _, _, _, _, _, _, _, _, _, _, _, _, _, _, rfl, _⟩ := h; rfl) | (obtain ⟨_, _, _, _, _, _, _, _, _, _, _, _, _, _, _, _, _, _, rfl, _⟩ := h; rfl) | (obtain ⟨_, _, _, _, _, _, _, _, _, _, _, _, _, _, _, _, _, _, _, rfl, _⟩ := h; rfl) | (obtain ⟨_, _, _, _, _, _, _, _, _, _, _, _, _, _, _, _, _, _, _, _, rfl, _⟩ := h; rfl) | (obtain ⟨_, _, _, _, _, _, _, _, _, _, _, _, _, _, _, _, _, _, _, _, _, rfl, _⟩ := h; rfl) | (obtain ⟨_, _, _, _, _, _, _, _, _, _, _, _, _, _, _, _, _, _, _, _, _, _, rfl, _⟩ := h; rfl) | (obtain ⟨_, _, _, _, _, _, _, _, _, _, _, _, _, _, _, _, _, _, _, _, _, _, _, rfl, _⟩ := h; rfl)) (fun cdv A outer s H vs Q E hr tk pz h => ?_)
  have hu := hr.units
  have hrH := L2H.roomH_of hr
  obtain ⟨n, p, log, x, i, j, rfl, hp, hlen, hR, k⟩ := h
  refine ⟨_, (pss_cons (ps_if (pt_not (pt_tru (pe_callA G__law_fits (Room.mono hr (by decide)) T.n__law_fits tk (pa_cons (pe_callA G__law_told (Room.mono hr (by decide)) T.n__law_told tk (pa_cons pe_str (pa_cons (pv 0) (pa_cons (pv 1) (pa_cons pe_non pa_nil))))) (pa_cons (pv 2) (pa_cons (pv 3) (pa_cons (pv 4) pa_nil))))))) (pss_one (ps_ret pe_bl)) pss_nil)
      (pss_cons (ps_if (pt_not (pt_tru (pe_callA G__law_fits (Room.mono hr (by decide)) T.n__law_fits tk (pa_cons (pe_callA G__law_told (Room.mono hr (by decide)) T.n__law_told tk (pa_cons pe_str (pa_cons (pv 0) (pa_cons (pv 1) (pa_cons pe_non pa_nil))))) (pa_cons (pv 2) (pa_cons (pv 3) (pa_cons (pv 4) pa_nil))))))) (pss_one (ps_ret pe_bl)) pss_nil)
      (pss_one (ps_ret (pe_callA G__law_fits (Room.mono hr (by decide)) T.n__law_fits tk (pa_cons (pe_callA G__law_told (Room.mono hr (by decide)) T.n__law_told tk (pa_cons pe_str (pa_cons (pv 0) (pa_cons (pv 1) (pa_cons (pe_tup (pa_cons pe_int (pa_cons pe_int (pa_cons pe_int pa_nil)))) pa_nil))))) (pa_cons (pv 2) (pa_cons (pv 3) (pa_cons (pv 4) pa_nil))))))))), ?_⟩
  show (_ : Ends → L2.St → Hp → Prop) _ [some _, some _, some _, some _, some _] _
  try dsimp only [L2H.cxH, cxOf]
  walk_at "w"
  refine ⟨"made", n, p, log, .non, none, rfl, hp, hlen, .inl ⟨rfl, rfl⟩, fun t1 row H1 ht k1 ht1 hF => ?_⟩
  have e := hR _ _ _ hF
  subst e
  walk_at "w"
  refine ⟨t1, x, i, j, rfl, ht1, ?_⟩
  have hp1 := k1.at0 hp
  clear hF
  walk_at "w"
  refine ⟨"judged", n, p, log, .non, some none, rfl, hp1, hlen, .inr ⟨rfl, _, rfl, .non⟩, fun t2 row H2 ht2' k2 ht2 hF => ?_⟩
  have e := hR _ _ _ hF
  subst e
  walk_at "w"
  refine ⟨t2, x, i, j, rfl, ht2, ?_⟩
  have hp2 := k2.at0 hp1
  clear hF
  walk_at "w"
  intro T hT
  have k3 := Kp.refl.new (ms := []) (o := .tup [.int 1, .int 3, .int 4]) hT
  refine ⟨"judged", n, p, log, .ref T, some (some (1, 3, 4)), rfl, k3.at0 hp2, hlen, .inr ⟨rfl, _, rfl, .tri 1 3 4 upd_same⟩, fun t4 row H4 ht4' k4 ht4 hF => ?_⟩
  have e := hR _ _ _ hF
  subst e
  walk_at "w"
  refine ⟨t4, x, i, j, rfl, ht4, ?_⟩
  exact k H4 (((k1.trans0 k2).trans0 k3).trans0 k4)
def sp__law_refusals (a : AD) : Sp := fun vs H Q _ => ∃ (b q : Addr) (n : Int) (p : Addr) (log : List Int), vs = [.ref b, .int n, .ref p] ∧ Box H b q ∧ 0 ≤ n ∧ n ≤ 60 ∧ H p = some (.lst (log.map V.int)) ∧ p ≠ b ∧ log.length ≤ 1000 ∧ okTo n (s0 n) log log.length ∧ ∀ H', Q (.bl true) H'
theorem sc__law_refusals : FnScope ["_law_bag_here", "_law_size_here", "_law_moves", "_law_place", "_law_odd", "_law_wrong", "_law_far"] ["_law_bag_here", "_law_size_here", "_law_moves"] (defScope s__law_refusals) := ⟨rfl, rfl, rfl, by decide +kernel, rfl, by decide +kernel, by decide +kernel⟩
theorem ok__law_refusals {P : Program} {w : World} {K : PySem.W.Frag} {mg : Str → Option Value} {base : Heap} {a : AD} (T : Txt P K mg a) (G__law_draw : FnA P w K mg base 2 a.f__law_draw ["_law_bag_here", "_law_many"] (sp__law_draw a)) (G__law_both_refuse : FnA P w K mg base 9 a.f__law_both_refuse ["_law_size_here", "_law_moves", "_law_word", "_law_first", "_law_second"] (sp__law_both_refuse a)) : FnA P w K mg base 10 a.f__law_refusals ["_law_bag_here", "_law_size_here", "_law_moves"] (sp__law_refusals a) := by
  obtain ⟨fd, F, b⟩ := T.F__law_refusals
  refine FnA.of F sc__law_refusals b (fun vs H Q E h => by first | (obtain ⟨rfl, _⟩ := h; rfl) | (obtain ⟨_, rfl, _⟩ := h; rfl) | (obtain ⟨_, _, rfl, _⟩ := h; rfl) | (obtain ⟨_, _, _, rfl, _⟩ := h; rfl) | (obtain ⟨_, _, _, _, rfl, _⟩ := h; rfl) | (obtain ⟨_, _, _, _, _, rfl, _⟩ := h; rfl) | (obtain ⟨_, _, _, _, _, _, rfl, _⟩ := h; rfl) | (obtain ⟨_, _, _, _, _, _, _, rfl, _⟩ := h; rfl) | (obtain ⟨_, _, _, _, _, _, _, _, rfl, _⟩ := h; rfl) | (obtain ⟨_, _, _, _, _, _, _, _, _, rfl, _⟩ := h; rfl) | (obtain ⟨_, _, _, _, _, _, _, _, _, _, rfl, _⟩ := h; rfl) | (obtain ⟨_, _, _, _, _, _, _, _, _, _, _, rfl, _⟩ := h; rfl) | (obtain ⟨_, _, _, _, _, _, _, _, _, _, _, _, rfl, _⟩ := h; rfl) | (obtain ⟨_, _, _, _, _, _, _, _, _, _, _, _, _, rfl, _⟩ := h; rfl) | (obtain ⟨_, _, _, _, _, _, _, _, _, _, _, _, _, _, rfl, _⟩ := h; rfl) | (obtain ⟨_, _, _, _, _, _, _, _, _, _, _, _, _, _, _, rfl, _⟩ := h; rfl) | (obtain ⟨_, _, _, _, _, _, _, _, _, _, _, _, _, _, _, _, rfl, _⟩ := h; rfl) | (obtain ⟨_, _, _, _, _, _, _, _, _, _, _, _, _, _, _, _, _, rfl, _⟩ := h; rfl) | (obtain ⟨_, _, _, _, _, _, _, _, _, _, _, _, _, _, _, _, _, _, rfl, _⟩ := h; rfl) | (obtain ⟨_, _, _, _, _, _, _, _, _, _, _, _, _, _, _, _, _, _, _, rfl, _⟩ := h; rfl) | (obtain ⟨_, _, _, _, _, _, _, _, _, _, _, _, _, _, _, _, _, _, _, _, rfl, _⟩ := h; rfl) | (obtain ⟨_, _, _, _, _, _, _, _, _, _, _, _, _, _, _, _, _, _, _, _, _, rfl, _⟩ := h; rfl) | (obtain ⟨_, _, _, _, _, _, _, _, _, _, _, _, _, _, _, _, _, _, _, _, _, _, rfl, _⟩ := h; rfl) | (obtain ⟨_, _, _, _, _, _, _, _, _, _, _, _, _, _, _, _, _, _, _, _, _, _, _, rfl, _⟩ := h; rfl)) (fun cdv A outer s H vs Q E hr tk pz h => ?_)
  have hu := hr.units
  have hrH := L2H.roomH_of hr
  obtain ⟨b, q, n, p, log, rfl, B, n0, n1, hp, pb, hlen, hok, k⟩ := h
  refine ⟨_, (pss_cons (ps_set (i := 3) sc__law_refusals.nd rfl (Or.inl rfl) (pe_callA G__law_draw (Room.mono hr (by decide)) T.n__law_draw tk (pa_cons (pv 0) (pa_cons (pe_op o_add (pe_callB (b_len) rfl T.b_len (by decide +kernel) (pa_cons (pv 2) pa_nil)) pe_int) pa_nil))))
      (pss_cut (ps_set (i := 4) sc__law_refusals.nd rfl (Or.inl rfl) (pe_ix ix_seq (pe_lst (pa_cons pe_int (pa_cons (pe_op o_add (pv 1) pe_int) (pa_cons (pe_op op_sub (pe_un un_neg pe_int) (pv 1)) (pa_cons (pe_op o_add (pv 1) pe_int) pa_nil))))) (pe_callA G__law_draw (Room.mono hr (by decide)) T.n__law_draw tk (pa_cons (pv 0) (pa_cons pe_int pa_nil))) (fun _ _ => rfl)))
      (pss_cons (ps_set (i := 5) sc__law_refusals.nd rfl (Or.inl rfl) (pe_op o_add (pe_op o_add (pe_slice sl_any (pv 2) po_none (po_some (pv 3))) (pe_lst (pa_cons (pv 4) pa_nil))) (pe_slice sl_any (pv 2) (po_some (pv 3)) po_none)))
      (pss_cons (ps_if (pt_not (pt_tru (pe_callA G__law_both_refuse (Room.mono hr (by decide)) T.n__law_both_refuse tk (pa_cons (pv 1) (pa_cons (pv 5) (pa_cons pe_str (pa_cons (pv 4) (pa_cons (pv 3) pa_nil)))))))) (pss_one (ps_ret pe_bl)) pss_nil)
      (pss_cut (ps_set (i := 6) sc__law_refusals.nd rfl (Or.inl rfl) (pe_ix ix_seq (pe_lst (pa_cons pe_int (pa_cons (pe_un un_neg pe_int) (pa_cons (pe_op o_add pe_int (pe_callA G__law_draw (Room.mono hr (by decide)) T.n__law_draw tk (pa_cons (pv 0) (pa_cons pe_int pa_nil)))) (pa_cons (pe_op op_sub (pe_un un_neg pe_int) (pe_callA G__law_draw (Room.mono hr (by decide)) T.n__law_draw tk (pa_cons (pv 0) (pa_cons pe_int pa_nil)))) pa_nil))))) (pe_callA G__law_draw (Room.mono hr (by decide)) T.n__law_draw tk (pa_cons (pv 0) (pa_cons pe_int pa_nil))) (fun _ _ => rfl)))
      (pss_cons (ps_if (pt_not (pt_tru (pe_callA G__law_both_refuse (Room.mono hr (by decide)) T.n__law_both_refuse tk (pa_cons (pv 6) (pa_cons (pv 5) (pa_cons pe_str (pa_cons (pv 6) (pa_cons pe_int pa_nil)))))))) (pss_one (ps_ret pe_bl)) pss_nil)
      (pss_cons (ps_if (pt_cmpA (o_eq hu) (pv 2) (pe_lst pa_nil) (nomark _)) (pss_one (ps_ret pe_bl)) pss_nil)
      (pss_cons (ps_set (i := 3) sc__law_refusals.nd rfl (Or.inl rfl) (pe_callA G__law_draw (Room.mono hr (by decide)) T.n__law_draw tk (pa_cons (pv 0) (pa_cons (pe_callB (b_len) rfl T.b_len (by decide +kernel) (pa_cons (pv 2) pa_nil)) pa_nil))))
      (pss_cons (ps_set (i := 5) sc__law_refusals.nd rfl (Or.inl rfl) (pe_op o_add (pe_op o_add (pe_op o_add (pe_slice sl_any (pv 2) po_none (po_some (pv 3))) (pe_lst (pa_cons (pe_un un_neg (pe_ix ix_seq (pv 2) (pv 3) (fun _ _ => rfl))) pa_nil))) (pe_slice sl_any (pv 2) (po_some (pe_op o_add (pv 3) pe_int)) po_none)) (pe_lst (pa_cons pe_int pa_nil))))
      (pss_one (ps_ret (pe_callA G__law_both_refuse (Room.mono hr (by decide)) T.n__law_both_refuse tk (pa_cons (pv 1) (pa_cons (pv 5) (pa_cons pe_str (pa_cons (pe_un un_neg (pe_ix ix_seq (pv 2) (pv 3) (fun _ _ => rfl))) (pa_cons (pv 3) pa_nil))))))))))))))))), ?_⟩
  show (_ : Ends → L2.St → Hp → Prop) _ [some _, some _, some _, none, none, none, none] _
  try dsimp only [L2H.cxH, cxOf]
  walk_at "w"
  refine ⟨b, q, _, rfl, B, by omega, by omega, fun c H1 c0 c1 B1 k1 => ?_⟩
  have hp1 := k1 p _ hp (by simpa using pb)
  clear B k1
  walk_at "w"
  refine s_cut (fun σ' H' => ∃ odd : Int, σ' = [some (.ref b), some (.int n), some (.ref p), some (.int c), some (.int odd), none, none] ∧ ¬IsOp n odd ∧ Box H' b q ∧ Kp [b] H1 H') ?_ ?_
  · walk_at "w"
    intro t ht
    have kt := Kp.refl.new (ms := [b]) (o := .lst (([0, n + 1, -1 - n, n + 40] : List Int).map V.int)) ht
    have ht2 : upd H1 t (.lst [.int 0, .int (n + 1), .int (-1 - n), .int (n + 40)]) t = some (.lst (([0, n + 1, -1 - n, n + 40] : List Int).map V.int)) := upd_same
    have B2 := B1.new (o := .lst [.int 0, .int (n + 1), .int (-1 - n), .int (n + 40)]) ht
    have kt : Kp [b] H1 (upd H1 t (.lst [.int 0, .int (n + 1), .int (-1 - n), .int (n + 40)])) := kt
    have tb := B1.b ht
    generalize upd H1 t (.lst [.int 0, .int (n + 1), .int (-1 - n), .int (n + 40)]) = H2 at kt ht2 B2 ⊢
    walk_at "w"
    refine ⟨b, q, _, rfl, B2, by omega, by omega, fun x H3 x0 x1 B3 k3 => ?_⟩
    have ht3 := k3 t _ ht2 (by simpa using tb)
    have hl4 : ([0, n + 1, -1 - n, n + 40] : List Int).length = 4 := rfl
    walk_at "w"
    refine ⟨_, rfl, fun z => ?_, B3, kt.trans k3⟩
    have := z.1
    have := z.2
    obtain rfl | rfl | rfl | rfl : x = 0 ∨ x = 1 ∨ x = 2 ∨ x = 3 := by omega
    · simp at *
    · simp at *; omega
    · simp at *; omega
    · simp at *; omega
  rintro σ' H2 ⟨odd, rfl, hodd, B2, k2⟩
  have hp2 := k2 p _ hp1 (by simpa using pb)
  clear B1 hp1 k2
  have e1 : cut log none (some c) = log.take c.toNat := cut_front c0 (by omega)
  have e2 : cut log (some c) none = log.drop c.toNat := cut_back c0 (by omega)
  have l1 : (log.take c.toNat).length ≤ log.length := by rw [List.length_take]; omega
  have l2 : (log.drop c.toNat).length ≤ log.length := by rw [List.length_drop]; omega
  walk_at "w"
  rw [e1]
  intro t1 h1
  walk_at "w"
  intro t2 h2
  walk_at "w"
  intro t3 h3
  walk_at "w"
  rw [e2]
  intro t4 h4
  walk_at "w"
  intro t5 h5
  have k3 := ((((Kp.refl.new (ms := []) (o := .lst ((log.take c.toNat).map V.int)) h1).new (o := .lst [.int odd]) h2).new (o := .lst ((log.take c.toNat ++ [odd]).map V.int)) h3).new (o := .lst ((log.drop c.toNat).map V.int)) h4).new (o := .lst ((log.take c.toNat ++ [odd] ++ log.drop c.toNat).map V.int)) h5
  have h5' : (upd (upd (upd (upd (upd H2 t1 (.lst ((log.take c.toNat).map V.int))) t2 (.lst [.int odd])) t3 (.lst ((log.take c.toNat ++ [odd]).map V.int))) t4 (.lst ((log.drop c.toNat).map V.int))) t5 (.lst ((log.take c.toNat ++ [odd] ++ log.drop c.toNat).map V.int))) t5 = some (.lst ((log.take c.toNat ++ [odd] ++ log.drop c.toNat).map V.int)) := upd_same
  have t5b : t5 ≠ b := B2.b (upd_nil (upd_nil (upd_nil (upd_nil h5))))
  generalize upd (upd (upd (upd (upd H2 t1 (.lst ((log.take c.toNat).map V.int))) t2 (.lst [.int odd])) t3 (.lst ((log.take c.toNat ++ [odd]).map V.int))) t4 (.lst ((log.drop c.toNat).map V.int))) t5 (.lst ((log.take c.toNat ++ [odd] ++ log.drop c.toNat).map V.int)) = H3 at k3 h5' ⊢
  have B3 := B2.kp k3
  have hp3 := k3.at0 hp2
  have hwl : (log.take c.toNat ++ [odd] ++ log.drop c.toNat).length ≤ 5000 := by rw [List.length_append, List.length_append]; simp only [List.length_singleton]; omega
  have hbad : BadIx n (log.take c.toNat ++ [odd] ++ log.drop c.toNat) c.toNat odd := badIx_put hok (by omega) (fun z => hodd z.1)
  have hR1 := refO_op n0 n1 hbad hodd
  rw [show ((c.toNat : Nat) : Int) = c by omega] at hR1
  generalize log.take c.toNat ++ [odd] ++ log.drop c.toNat = wr at h5' hwl hR1
  clear h1 h2 h3 h4 h5 k3 hp2 B2 e1 e2 hbad
  walk_at "w"
  refine ⟨n, t5, wr, _, odd, c, rfl, h5', by omega, hR1, fun H4 k4 => ?_⟩
  have B4 := B3.kp k4
  have hp4 := k4.at0 hp3
  have h54 := k4.at0 h5'
  clear B3 hp3 h5' k4 hR1
  walk_at "w"
  refine s_cut (fun σ' H' => ∃ (far : Int), σ' = [some (.ref b), some (.int n), some (.ref p), some (.int c), some (.int odd), some (.ref t5), some (.int far)] ∧ ¬(0 ≤ far ∧ far ≤ 60) ∧ Box H' b q ∧ Kp [b] H4 H') ?_ ?_
  · walk_at "w"
    refine ⟨b, q, _, rfl, B4, by omega, by omega, fun x H5 x0 x1 B5 k5 => ?_⟩
    walk_at "w"
    refine ⟨b, q, _, rfl, B5, by omega, by omega, fun y H6 y0 y1 B6 k6 => ?_⟩
    walk_at "w"
    intro t ht
    have kt := Kp.refl.new (ms := [b]) (o := .lst (([61, -1, 62 + x, -2 - y] : List Int).map V.int)) ht
    have ht2 : upd H6 t (.lst [.int 61, .int (-1), .int (62 + x), .int (-2 - y)]) t = some (.lst (([61, -1, 62 + x, -2 - y] : List Int).map V.int)) := upd_same
    have B7 := B6.new (o := .lst [.int 61, .int (-1), .int (62 + x), .int (-2 - y)]) ht
    have kt : Kp [b] H6 (upd H6 t (.lst [.int 61, .int (-1), .int (62 + x), .int (-2 - y)])) := kt
    have tb := B6.b ht
    generalize upd H6 t (.lst [.int 61, .int (-1), .int (62 + x), .int (-2 - y)]) = H7 at kt ht2 B7 ⊢
    walk_at "w"
    refine ⟨b, q, _, rfl, B7, by omega, by omega, fun z H8 z0 z1 B8 k8 => ?_⟩
    have ht3 := k8 t _ ht2 (by simpa using tb)
    have hl4 : ([61, -1, 62 + x, -2 - y] : List Int).length = 4 := rfl
    walk_at "w"
    refine ⟨_, rfl, fun u => ?_, B8, ((k5.trans k6).trans kt).trans k8⟩
    obtain ⟨u1, u2⟩ := u
    obtain rfl | rfl | rfl | rfl : z = 0 ∨ z = 1 ∨ z = 2 ∨ z = 3 := by omega
    · simp at *
    · simp at *
    · simp at *; omega
    · simp at *; omega
  rintro σ' H5 ⟨far, rfl, hfar, B5, k5⟩
  have hp5 := k5 p _ hp4 (by simpa using pb)
  have h55 := k5 t5 _ h54 (by simpa using t5b)
  clear B4 hp4 h54 k5
  walk_at "w"
  refine ⟨far, t5, wr, _, far, 0, rfl, h55, by omega, refO_size hfar, fun H6 k6 => ?_⟩
  have B6 := B5.kp k6
  have hp6 := k6.at0 hp5
  clear B5 hp5 h55 k6 t5b hwl
  walk_at "w"
  intro t ht
  refine w_eqLI0 (upd_new ht hp6) upd_same ?_
  have B7 := B6.new (o := .lst []) ht
  have hp7 := upd_new (o := .lst []) ht hp6
  generalize upd H6 t (.lst []) = H7 at B7 hp7 ⊢
  walk_at "w"
  refine w_ite (fun c2 => ?_) (fun c2 => ?_)
  · walk_at "w"
    exact k H7
  have hpos : 0 < log.length := List.length_pos_iff.mpr c2
  walk_at "w"
  refine ⟨b, q, _, rfl, B7, by omega, by omega, fun d H8 d0 d1 B8 k8 => ?_⟩
  have hp8 := k8 p _ hp7 (by simpa using pb)
  have hu : log[d.toNat]? = some log[d.toNat] := List.getElem?_eq_getElem (by omega)
  generalize log[d.toNat] = m at hu
  have hgm : log.getD d.toNat default = m := gD_some hu
  have e1 : cut log none (some d) = log.take d.toNat := cut_front d0 (by omega)
  have e2 : cut log (some (d + 1)) none = log.drop (d + 1).toNat := cut_back (by omega) (by omega)
  have l1 : (log.take d.toNat).length ≤ log.length := by rw [List.length_take]; omega
  have l2 : (log.drop (d + 1).toNat).length ≤ log.length := by rw [List.length_drop]; omega
  obtain ⟨hO1, hO2⟩ := hok d.toNat m (by omega) hu
  have hop : IsOp n (-m) := ⟨by have := hO1.1; omega, by have := hO1.2; omega⟩
  have hno : ¬OkAt n (runS (s0 n) (log.take d.toNat)) (-m) := by
    rintro ⟨_, z⟩
    rw [Int.natAbs_neg] at z
    have m0 := hO1.1
    cases hf : (runS (s0 n) (log.take d.toNat)).2.2.getD m.natAbs default with
    | true =>
      rw [hf] at z hO2
      have a1 : ¬m < 0 := fun y => hO2 (by simpa using y)
      exact z (by symm; simp; omega)
    | false =>
      rw [hf] at z hO2
      have a1 : m < 0 := by
        rcases Int.lt_or_le m 0 with y | y
        · exact y
        · exact absurd (by symm; simpa using y) hO2
      exact z (by symm; simp; omega)
  walk_at "w"
  rw [e1]
  intro s1 h1
  walk_at "w"
  rw [hgm]
  intro s2 h2
  walk_at "w"
  intro s3 h3
  walk_at "w"
  rw [e2]
  intro s4 h4
  walk_at "w"
  intro s5 h5
  walk_at "w"
  intro s6 h6
  walk_at "w"
  intro s7 h7
  walk_at "w"
  rw [hgm]
  walk_at "w"
  have e3 : log.take d.toNat ++ [-m] ++ log.drop (d + 1).toNat ++ [0] = log.take d.toNat ++ [-m] ++ (log.drop (d + 1).toNat ++ [0]) := by rw [List.append_assoc _ _ [0]]
  have hR := refO_ill n0 n1 (badIx_put (rest := log.drop (d + 1).toNat ++ [0]) hok (by omega) hno) hop
  rw [← e3, show ((d.toNat : Nat) : Int) = d by omega] at hR
  exact ⟨n, s7, _, _, -m, d, rfl, upd_same, by rw [List.length_append, List.length_append, List.length_append]; simp only [List.length_singleton]; omega, hR, fun H9 _ => k H9⟩
def spL (K : PySem.W.Frag) : Sp := fun vs H Q E => ∃ (p : Addr) (ns : List Int), vs = [.ref p] ∧ SqL K H p (ns.map V.int) ∧ ns.length ≤ 63 ∧ (∀ H', Kp [] H H' → SqL K H' p (ns.map V.int)) ∧ ∀ H', Q (.bl true) H'
theorem sc_law : FnScope ["_law_script", "_law_bag_here", "_law_size_here", "_law_moves", "_law_losses_here"] ["_law_script"] (defScope s_law) := ⟨rfl, rfl, rfl, by decide +kernel, rfl, by decide +kernel, by decide +kernel⟩
theorem ok_law {P : Program} {w : World} {K : PySem.W.Frag} {mg : Str → Option Value} {base : Heap} {a : AD} (T : Txt P K mg a) {fd : FuncData} (F : Fun K "law" "law" s_law a.f_law fd) (G__law_bag : FnA P w K mg base 2 a.f__law_bag ["_law_script"] (sp__law_bag K a)) (G__law_size : FnA P w K mg base 3 a.f__law_size ["_law_bag_here"] (sp__law_size a)) (G__law_log : FnA P w K mg base 5 a.f__law_log ["_law_bag_here", "_law_size_here"] (sp__law_log a)) (G__law_losses : FnA P w K mg base 3 a.f__law_losses ["_law_size_here", "_law_moves"] (sp__law_losses a)) (G__law_certified : FnA P w K mg base 9 a.f__law_certified ["_law_size_here", "_law_moves"] (sp__law_certified a)) (G__law_values_fit : FnA P w K mg base 11 a.f__law_values_fit ["_law_bag_here", "_law_size_here", "_law_moves"] (sp__law_values_fit a)) (G__law_draw : FnA P w K mg base 2 a.f__law_draw ["_law_bag_here", "_law_many"] (sp__law_draw a)) (G__law_refusals : FnA P w K mg base 10 a.f__law_refusals ["_law_bag_here", "_law_size_here", "_law_moves"] (sp__law_refusals a)) : FnOk P w K mg base (L2N.CX P w) 12 a.f_law fd ["_law_script"] (spL K) := by
  refine FnOk_of F sc_law (fun vs H Q E h => by first | (obtain ⟨_, rfl, _⟩ := h; rfl) | (obtain ⟨_, _, rfl, _⟩ := h; rfl)) (fun cdv A outer s H vs Q E hr tk pz h => ?_)
  have hu := hr.units
  have hrH := L2H.roomH_of hr
  obtain ⟨p0, ns, rfl, hp0, hlen, hkeep, k⟩ := h
  refine ⟨_, (pss_cons (ps_set (i := 1) sc_law.nd rfl (Or.inl rfl) (pe_callA G__law_bag (Room.mono hr (by decide)) T.n__law_bag tk (pa_cons (pv 0) pa_nil)))
      (pss_cons (ps_set (i := 2) sc_law.nd rfl (Or.inl rfl) (pe_callA G__law_size (Room.mono hr (by decide)) T.n__law_size tk (pa_cons (pv 1) pa_nil)))
      (pss_cons (ps_set (i := 3) sc_law.nd rfl (Or.inl rfl) (pe_callA G__law_log (Room.mono hr (by decide)) T.n__law_log tk (pa_cons (pv 1) (pa_cons (pv 2) pa_nil))))
      (pss_cons (ps_set (i := 4) sc_law.nd rfl (Or.inl rfl) (pe_callA G__law_losses (Room.mono hr (by decide)) T.n__law_losses tk (pa_cons (pv 2) (pa_cons (pv 3) pa_nil))))
      (pss_cons (ps_if (PW.pt (pw_or (pt_not (pt_tru (pe_callA G__law_certified (Room.mono hr (by decide)) T.n__law_certified tk (pa_cons (pv 2) (pa_cons (pv 3) pa_nil))))) (pw_or1 (pt_not (pt_tru (pe_callA G__law_values_fit (Room.mono hr (by decide)) T.n__law_values_fit tk (pa_cons (pv 1) (pa_cons (pv 2) (pa_cons (pv 3) pa_nil))))))))) (pss_one (ps_ret pe_bl)) pss_nil)
      (pss_cut (ps_if (pt_cmpA (o_ne hu) (pv 4) (pe_lst pa_nil) (nomark _)) (pss_cons (ps_if (pt_not (pt_tru (pe_callA G__law_certified (Room.mono hr (by decide)) T.n__law_certified tk (pa_cons (pv 2) (pa_cons (pe_slice sl_any (pv 3) po_none (po_some (pe_ix ix_seq (pe_ix ix_seq (pv 4) pe_int (fun _ _ => rfl)) pe_int (fun _ _ => rfl)))) pa_nil))))) (pss_one (ps_ret pe_bl)) pss_nil)
      (pss_one (ps_if (pt_not (pt_tru (pe_callA G__law_certified (Room.mono hr (by decide)) T.n__law_certified tk (pa_cons (pv 2) (pa_cons (pe_slice sl_any (pv 3) po_none (po_some (pe_op o_add (pe_ix ix_seq (pe_ix ix_seq (pv 4) pe_int (fun _ _ => rfl)) pe_int (fun _ _ => rfl)) pe_int))) pa_nil))))) (pss_one (ps_ret pe_bl)) pss_nil))) pss_nil)
      (pss_cons (ps_if (pt_not (pt_tru (pe_callA G__law_certified (Room.mono hr (by decide)) T.n__law_certified tk (pa_cons (pv 2) (pa_cons (pe_slice sl_any (pv 3) po_none (po_some (pe_callA G__law_draw (Room.mono hr (by decide)) T.n__law_draw tk (pa_cons (pv 1) (pa_cons (pe_op o_add (pe_callB (b_len) rfl T.b_len (by decide +kernel) (pa_cons (pv 3) pa_nil)) pe_int) pa_nil))))) pa_nil))))) (pss_one (ps_ret pe_bl)) pss_nil)
      (pss_one (ps_ret (pe_callA G__law_refusals (Room.mono hr (by decide)) T.n__law_refusals tk (pa_cons (pv 1) (pa_cons (pv 2) (pa_cons (pv 3) pa_nil))))))))))))), ?_⟩
  show (_ : Ends → L2.St → Hp → Prop) _ [some _, none, none, none, none] _
  try dsimp only [L2H.cxH, cxOf]
  walk_at "w"
  refine ⟨p0, ns, rfl, hp0, fun b q H1 hb B1 k1 => ?_⟩
  walk_at "w"
  refine ⟨b, q, rfl, B1, fun n H2 n0 n1 B2 k2 => ?_⟩
  walk_at "w"
  refine ⟨b, q, n, rfl, B2, n0, n1, fun p log H3 hp hp3 hok hll B3 k3 => ?_⟩
  have pb : p ≠ b := B2.b hp
  have bm : ∀ {H' : Hp}, Box H' b q → ∀ m ∈ [b], ∃ ys, H' m = some (.lst ys) := fun B m hm => by
    rw [List.mem_singleton.mp hm]
    obtain ⟨ns, i, big, st, c, hb, _⟩ := B
    exact ⟨_, hb⟩
  walk_at "w"
  refine ⟨n, p, log, rfl, n0, n1, hp3, by omega, hok, fun d xs H4 hd k4 hd4 hT4 => ?_⟩
  have db : d ≠ b := B3.b hd
  have hp4 := k4.at0 hp3
  have B4 := B3.kp k4
  clear B1 B2 B3 k1 k2 k3 k4 hp hp3 hd
  walk_at "w"
  refine ⟨n, p, log, rfl, n0, n1, hp4, by omega, hok, fun H5 k5 => ?_⟩
  have hp5 := k5.at0 hp4
  have hd5 := k5.at0 hd4
  have hT5 := hT4.kp0 k5
  have B5 := B4.kp k5
  clear hp4 hd4 hT4 B4 k5
  walk_at "w"
  refine ⟨b, q, n, p, log, rfl, B5, n0, n1, hp5, pb, by omega, hok, fun H6 B6 k6 => ?_⟩
  have hp6 := k6 p _ hp5 (by simpa using pb)
  have hd6 := k6 d _ hd5 (by simpa using db)
  have hT6 := hT5.kpm k6 (bm B5)
  clear hp5 hd5 hT5 B5 k6
  walk_at "w"
  refine s_cut (fun σ' H' => σ' = [some (.ref p0), some (.ref b), some (.int n), some (.ref p), some (.ref d)] ∧ Kp [] H6 H') ?_ ?_
  · walk_at "w"
    intro t ht
    refine w_neLoss (upd_new ht hd6) (hT6.new ht) upd_same ?_
    have kt := Kp.refl.new (ms := []) (o := .lst []) ht
    generalize upd H6 t (.lst []) = H7 at kt ⊢
    have hp7 := kt.at0 hp6
    have hd7 := kt.at0 hd6
    have hT7 := hT6.kp0 kt
    walk_at "w"
    refine w_iteN (fun c => ?_) (fun c => ?_)
    · obtain ⟨g, rest, e⟩ : ∃ g rest, lostE n log = g :: rest := by
        cases e : lostE n log with
        | nil => exact absurd e c
        | cons g rest => exact ⟨g, rest, rfl⟩
      have hg : g ∈ lostE n log := by rw [e]; exact List.mem_cons_self
      obtain ⟨z0, z1, hl⟩ := lostF_mem.mp hg
      have hl : stAt (s0 n) log log.length g = ("lost" : Str) := by unfold stAt; rw [List.take_length]; exact hl
      obtain ⟨c1, c2, c3, _⟩ := cert_ok n0 n1 hok z0 z1 hl
      rw [e] at hT7
      obtain ⟨y, e1, e2⟩ := hT7.get (k := 0) (p := certT n log g) rfl
      unfold certT at e2
      walk_at "w"
      intro u hu
      rw [cut_front (by omega) (by omega)]
      have ku := Kp.refl.new (ms := []) (o := .lst ((log.take (secF n log g).toNat).map V.int)) hu
      refine ⟨n, u, _, rfl, n0, n1, upd_same, by rw [List.length_take]; omega, okTo_take hok _, fun H8 k8 => ?_⟩
      have k08 := ku.trans0 k8
      have hp8 := k08.at0 hp7
      have hd8 := k08.at0 hd7
      have e28 := k08.at0 e2
      walk_at "w"
      intro u2 hu2
      rw [cut_front (by omega) (by omega)]
      have ku2 := Kp.refl.new (ms := []) (o := .lst ((log.take (secF n log g + 1).toNat).map V.int)) hu2
      refine ⟨n, u2, _, rfl, n0, n1, upd_same, by rw [List.length_take]; omega, okTo_take hok _, fun H9 k9 => ?_⟩
      walk_at "w"
      exact ⟨rfl, (kt.trans0 k08).trans0 (ku2.trans0 k9)⟩
    · walk_at "w"
      exact ⟨rfl, kt⟩
  rintro σ' H7 ⟨rfl, k7⟩
  have hp7 := k7.at0 hp6
  have B7 := B6.kp k7
  walk_at "w"
  refine ⟨b, q, _, rfl, B7, by omega, by omega, fun c H8 c0 c1 B8 k8 => ?_⟩
  have hp8 := k8 p _ hp7 (by simpa using pb)
  walk_at "w"
  rw [cut_front (by omega) (by omega)]
  intro u hu
  have ku := Kp.refl.new (ms := []) (o := .lst ((log.take c.toNat).map V.int)) hu
  refine ⟨n, u, _, rfl, n0, n1, upd_same, by rw [List.length_take]; omega, okTo_take hok _, fun H9 k9 => ?_⟩
  have k09 := ku.trans0 k9
  walk_at "w"
  refine ⟨b, q, n, p, log, rfl, B8.kp k09, n0, n1, k09.at0 hp8, pb, by omega, hok, fun H10 => k H10⟩
theorem SqL.kp' {K : PySem.W.Frag} {H H' : Hp} {p : Addr} {xs : List V} (h : SqL K H p xs) (k : Kp [] H H') : SqL K H' p xs := by
  rcases h with h | h
  · rcases h with h | ⟨o, h⟩
    · exact .inl (.inl (k.at0 h))
    · exact .inl (.inr ⟨o, k.at0 h⟩)
  · exact .inr h
theorem spL_ok {K : PySem.W.Frag} {H : Hp} {a : Addr} {ns : List Int} (hl : ns.length ≤ 63) (hS : SqL K H a (ns.map V.int)) : spL K [.ref a] H (fun v _ => v = .bl true) fun _ _ _ => False := ⟨a, ns, rfl, hS, hl, fun H' k => SqL.kp' hS k, fun _ => rfl⟩
/-- what the top has left -/
theorem all_mk {P : Program} {w : World} {K : PySem.W.Frag} {h : Heap} {mg : Str → Option Value} {fa : Addr} (X : K.In h) (G : h.Ns mainGlobals mg) (hfa : mg "law" = some (.ref fa))
    {f_check_size : Addr} {oc_check_size kV_check_size dc_check_size pm_check_size cd_check_size ct_check_size : Value} {od_check_size an_check_size : Option Addr} {sl_check_size : Array (Option Value)}
    {f_check_operation : Addr} {oc_check_operation kV_check_operation dc_check_operation pm_check_operation cd_check_operation ct_check_operation : Value} {od_check_operation an_check_operation : Option Addr} {sl_check_operation : Array (Option Value)}
    {f_check_log : Addr} {oc_check_log kV_check_log dc_check_log pm_check_log cd_check_log ct_check_log : Value} {od_check_log an_check_log : Option Addr} {sl_check_log : Array (Option Value)}
    {f__is_legal : Addr} {oc__is_legal kV__is_legal dc__is_legal pm__is_legal cd__is_legal ct__is_legal : Value} {od__is_legal an__is_legal : Option Addr} {sl__is_legal : Array (Option Value)}
    {f_check_gap : Addr} {oc_check_gap kV_check_gap dc_check_gap pm_check_gap cd_check_gap ct_check_gap : Value} {od_check_gap an_check_gap : Option Addr} {sl_check_gap : Array (Option Value)}
    {f_left_holds : Addr} {oc_left_holds kV_left_holds dc_left_holds pm_left_holds cd_left_holds ct_left_holds : Value} {od_left_holds an_left_holds : Option Addr} {sl_left_holds : Array (Option Value)}
    {f_right_holds : Addr} {oc_right_holds kV_right_holds dc_right_holds pm_right_holds cd_right_holds ct_right_holds : Value} {od_right_holds an_right_holds : Option Addr} {sl_right_holds : Array (Option Value)}
    {f_gap_state : Addr} {oc_gap_state kV_gap_state dc_gap_state pm_gap_state cd_gap_state ct_gap_state : Value} {od_gap_state an_gap_state : Option Addr} {sl_gap_state : Array (Option Value)}
    {f_gap_states : Addr} {oc_gap_states kV_gap_states dc_gap_states pm_gap_states cd_gap_states ct_gap_states : Value} {od_gap_states an_gap_states : Option Addr} {sl_gap_states : Array (Option Value)}
    {f_lost_gaps : Addr} {oc_lost_gaps kV_lost_gaps dc_lost_gaps pm_lost_gaps cd_lost_gaps ct_lost_gaps : Value} {od_lost_gaps an_lost_gaps : Option Addr} {sl_lost_gaps : Array (Option Value)}
    {f_replay : Addr} {oc_replay kV_replay dc_replay pm_replay cd_replay ct_replay : Value} {od_replay an_replay : Option Addr} {sl_replay : Array (Option Value)}
    {f_decided_by : Addr} {oc_decided_by kV_decided_by dc_decided_by pm_decided_by cd_decided_by ct_decided_by : Value} {od_decided_by an_decided_by : Option Addr} {sl_decided_by : Array (Option Value)}
    {f__certificate : Addr} {oc__certificate kV__certificate dc__certificate pm__certificate cd__certificate ct__certificate : Value} {od__certificate an__certificate : Option Addr} {sl__certificate : Array (Option Value)}
    {f__is_integer : Addr} {oc__is_integer kV__is_integer dc__is_integer pm__is_integer cd__is_integer ct__is_integer : Value} {od__is_integer an__is_integer : Option Addr} {sl__is_integer : Array (Option Value)}
    {f_loss_certificate : Addr} {oc_loss_certificate kV_loss_certificate dc_loss_certificate pm_loss_certificate cd_loss_certificate ct_loss_certificate : Value} {od_loss_certificate an_loss_certificate : Option Addr} {sl_loss_certificate : Array (Option Value)}
    {f_is_loss_certificate : Addr} {oc_is_loss_certificate kV_is_loss_certificate dc_is_loss_certificate pm_is_loss_certificate cd_is_loss_certificate ct_is_loss_certificate : Value} {od_is_loss_certificate an_is_loss_certificate : Option Addr} {sl_is_loss_certificate : Array (Option Value)}
    {f__law_bag : Addr} {oc__law_bag kV__law_bag dc__law_bag pm__law_bag cd__law_bag ct__law_bag : Value} {od__law_bag an__law_bag : Option Addr} {sl__law_bag : Array (Option Value)}
    {f__law_draw : Addr} {oc__law_draw kV__law_draw dc__law_draw pm__law_draw cd__law_draw ct__law_draw : Value} {od__law_draw an__law_draw : Option Addr} {sl__law_draw : Array (Option Value)}
    {f__law_whole : Addr} {oc__law_whole kV__law_whole dc__law_whole pm__law_whole cd__law_whole ct__law_whole : Value} {od__law_whole an__law_whole : Option Addr} {sl__law_whole : Array (Option Value)}
    {f__law_step : Addr} {oc__law_step kV__law_step dc__law_step pm__law_step cd__law_step ct__law_step : Value} {od__law_step an__law_step : Option Addr} {sl__law_step : Array (Option Value)}
    {f__law_operation : Addr} {oc__law_operation kV__law_operation dc__law_operation pm__law_operation cd__law_operation ct__law_operation : Value} {od__law_operation an__law_operation : Option Addr} {sl__law_operation : Array (Option Value)}
    {f__law_state : Addr} {oc__law_state kV__law_state dc__law_state pm__law_state cd__law_state ct__law_state : Value} {od__law_state an__law_state : Option Addr} {sl__law_state : Array (Option Value)}
    {f__law_number : Addr} {oc__law_number kV__law_number dc__law_number pm__law_number cd__law_number ct__law_number : Value} {od__law_number an__law_number : Option Addr} {sl__law_number : Array (Option Value)}
    {f__law_size : Addr} {oc__law_size kV__law_size dc__law_size pm__law_size cd__law_size ct__law_size : Value} {od__law_size an__law_size : Option Addr} {sl__law_size : Array (Option Value)}
    {f__law_lanes : Addr} {oc__law_lanes kV__law_lanes dc__law_lanes pm__law_lanes cd__law_lanes ct__law_lanes : Value} {od__law_lanes an__law_lanes : Option Addr} {sl__law_lanes : Array (Option Value)}
    {f__law_nodes : Addr} {oc__law_nodes kV__law_nodes dc__law_nodes pm__law_nodes cd__law_nodes ct__law_nodes : Value} {od__law_nodes an__law_nodes : Option Addr} {sl__law_nodes : Array (Option Value)}
    {f__law_log : Addr} {oc__law_log kV__law_log dc__law_log pm__law_log cd__law_log ct__law_log : Value} {od__law_log an__law_log : Option Addr} {sl__law_log : Array (Option Value)}
    {f__law_losses : Addr} {oc__law_losses kV__law_losses dc__law_losses pm__law_losses cd__law_losses ct__law_losses : Value} {od__law_losses an__law_losses : Option Addr} {sl__law_losses : Array (Option Value)}
    {f__law_told : Addr} {oc__law_told kV__law_told dc__law_told pm__law_told cd__law_told ct__law_told : Value} {od__law_told an__law_told : Option Addr} {sl__law_told : Array (Option Value)}
    {f__law_fits : Addr} {oc__law_fits kV__law_fits dc__law_fits pm__law_fits cd__law_fits ct__law_fits : Value} {od__law_fits an__law_fits : Option Addr} {sl__law_fits : Array (Option Value)}
    {f__law_is_triple : Addr} {oc__law_is_triple kV__law_is_triple dc__law_is_triple pm__law_is_triple cd__law_is_triple ct__law_is_triple : Value} {od__law_is_triple an__law_is_triple : Option Addr} {sl__law_is_triple : Array (Option Value)}
    {f__law_certified : Addr} {oc__law_certified kV__law_certified dc__law_certified pm__law_certified cd__law_certified ct__law_certified : Value} {od__law_certified an__law_certified : Option Addr} {sl__law_certified : Array (Option Value)}
    {f__law_truth : Addr} {oc__law_truth kV__law_truth dc__law_truth pm__law_truth cd__law_truth ct__law_truth : Value} {od__law_truth an__law_truth : Option Addr} {sl__law_truth : Array (Option Value)}
    {f__law_values : Addr} {oc__law_values kV__law_values dc__law_values pm__law_values cd__law_values ct__law_values : Value} {od__law_values an__law_values : Option Addr} {sl__law_values : Array (Option Value)}
    {f__law_judged : Addr} {oc__law_judged kV__law_judged dc__law_judged pm__law_judged cd__law_judged ct__law_judged : Value} {od__law_judged an__law_judged : Option Addr} {sl__law_judged : Array (Option Value)}
    {f__law_pairs : Addr} {oc__law_pairs kV__law_pairs dc__law_pairs pm__law_pairs cd__law_pairs ct__law_pairs : Value} {od__law_pairs an__law_pairs : Option Addr} {sl__law_pairs : Array (Option Value)}
    {f__law_values_fit : Addr} {oc__law_values_fit kV__law_values_fit dc__law_values_fit pm__law_values_fit cd__law_values_fit ct__law_values_fit : Value} {od__law_values_fit an__law_values_fit : Option Addr} {sl__law_values_fit : Array (Option Value)}
    {f__law_both_refuse : Addr} {oc__law_both_refuse kV__law_both_refuse dc__law_both_refuse pm__law_both_refuse cd__law_both_refuse ct__law_both_refuse : Value} {od__law_both_refuse an__law_both_refuse : Option Addr} {sl__law_both_refuse : Array (Option Value)}
    {f__law_refusals : Addr} {oc__law_refusals kV__law_refusals dc__law_refusals pm__law_refusals cd__law_refusals ct__law_refusals : Value} {od__law_refusals an__law_refusals : Option Addr} {sl__law_refusals : Array (Option Value)}
    {f_law : Addr} {oc_law kV_law dc_law pm_law cd_law ct_law : Value} {od_law an_law : Option Addr} {sl_law : Array (Option Value)}
    {f_Links___init__ : Addr} {oc_Links___init__ kV_Links___init__ dc_Links___init__ pm_Links___init__ cd_Links___init__ ct_Links___init__ : Value} {od_Links___init__ an_Links___init__ : Option Addr} {sl_Links___init__ : Array (Option Value)}
    {f_Links_left : Addr} {oc_Links_left kV_Links_left dc_Links_left pm_Links_left cd_Links_left ct_Links_left : Value} {od_Links_left an_Links_left : Option Addr} {sl_Links_left : Array (Option Value)}
    {f_Links_right : Addr} {oc_Links_right kV_Links_right dc_Links_right pm_Links_right cd_Links_right ct_Links_right : Value} {od_Links_right an_Links_right : Option Addr} {sl_Links_right : Array (Option Value)}
    {f_Links_apply_at : Addr} {oc_Links_apply_at kV_Links_apply_at dc_Links_apply_at pm_Links_apply_at cd_Links_apply_at ct_Links_apply_at : Value} {od_Links_apply_at an_Links_apply_at : Option Addr} {sl_Links_apply_at : Array (Option Value)}
    {LinkError : Addr}
    {LogError : Addr}
    {BadOperation : Addr} {i_BadOperation : Addr}
    {Illegal : Addr} {i_Illegal : Addr}
    {BadSize : Addr} {i_BadSize : Addr}
    {BadNode : Addr} {i_BadNode : Addr}
    {BadGap : Addr} {i_BadGap : Addr}
    {BadDump : Addr} {i_BadDump : Addr}
    {NotLost : Addr} {i_NotLost : Addr}
    {t_MOST_NODES : Tok}
    {t_MOST_DIGITS : Tok}
    {t_PARTS : Tok}
    {Links : Addr}
    {t_Links_MOST : Tok}
    (a_Links : PySem.W.nsIn K mainGlobals "Links" = some (some (.ref Links)))
    (cl_Links : Cls K Links)
    (rd_Links : ClX.CRead K Links (.type "type"))
    (mk1_Links : PySem.W.makesIn K Links = true) (mk2_Links : PySem.W.findIn K (.ref Links) "__init__" = some (some (.ref f_Links___init__))) (mk3_Links : PySem.W.isFn K (.ref f_Links___init__) = true) (mk4_Links : PySem.W.keepIn K (.ref Links) = true)
    (na_Links_size : NoAttr K Links "size")
    (na_Links__lefts : NoAttr K Links "_lefts")
    (na_Links__rights : NoAttr K Links "_rights")
    (na_Links__flags : NoAttr K Links "_flags")
    (cv_Links_MOST : PySem.W.findCls K (.ref Links) (.type "type") "MOST" = some (.val (.int 60 t_Links_MOST)))
    (l_Links___init__ : K.lookup f_Links___init__ = some ⟨oc_Links___init__, od_Links___init__, .func (PySem.W.fnOf "__init__" "Links.__init__" (defArgs s_Links___init__) (defBody s_Links___init__) (defScope s_Links___init__) .none kV_Links___init__ dc_Links___init__ pm_Links___init__ an_Links___init__ cd_Links___init__ ct_Links___init__), sl_Links___init__⟩) (c_Links___init__ : PySem.W.codeIn K cd_Links___init__ "Links.__init__" = true) (k_Links___init__ : PySem.W.keepIn K (.ref f_Links___init__) = true)
    (me1_Links_left : PySem.W.findIn K (.ref Links) "left" = some (some (.ref f_Links_left))) (me2_Links_left : PySem.W.isFn K (.ref f_Links_left) = true)
    (l_Links_left : K.lookup f_Links_left = some ⟨oc_Links_left, od_Links_left, .func (PySem.W.fnOf "left" "Links.left" (defArgs s_Links_left) (defBody s_Links_left) (defScope s_Links_left) .none kV_Links_left dc_Links_left pm_Links_left an_Links_left cd_Links_left ct_Links_left), sl_Links_left⟩) (c_Links_left : PySem.W.codeIn K cd_Links_left "Links.left" = true) (k_Links_left : PySem.W.keepIn K (.ref f_Links_left) = true)
    (me1_Links_right : PySem.W.findIn K (.ref Links) "right" = some (some (.ref f_Links_right))) (me2_Links_right : PySem.W.isFn K (.ref f_Links_right) = true)
    (l_Links_right : K.lookup f_Links_right = some ⟨oc_Links_right, od_Links_right, .func (PySem.W.fnOf "right" "Links.right" (defArgs s_Links_right) (defBody s_Links_right) (defScope s_Links_right) .none kV_Links_right dc_Links_right pm_Links_right an_Links_right cd_Links_right ct_Links_right), sl_Links_right⟩) (c_Links_right : PySem.W.codeIn K cd_Links_right "Links.right" = true) (k_Links_right : PySem.W.keepIn K (.ref f_Links_right) = true)
    (me1_Links_apply_at : PySem.W.findIn K (.ref Links) "apply_at" = some (some (.ref f_Links_apply_at))) (me2_Links_apply_at : PySem.W.isFn K (.ref f_Links_apply_at) = true)
    (l_Links_apply_at : K.lookup f_Links_apply_at = some ⟨oc_Links_apply_at, od_Links_apply_at, .func (PySem.W.fnOf "apply_at" "Links.apply_at" (defArgs s_Links_apply_at) (defBody s_Links_apply_at) (defScope s_Links_apply_at) .none kV_Links_apply_at dc_Links_apply_at pm_Links_apply_at an_Links_apply_at cd_Links_apply_at ct_Links_apply_at), sl_Links_apply_at⟩) (c_Links_apply_at : PySem.W.codeIn K cd_Links_apply_at "Links.apply_at" = true) (k_Links_apply_at : PySem.W.keepIn K (.ref f_Links_apply_at) = true)
    (a_LinkError : PySem.W.nsIn K mainGlobals "LinkError" = some (some (.ref LinkError)))
    (a_LogError : PySem.W.nsIn K mainGlobals "LogError" = some (some (.ref LogError)))
    (a_BadOperation : PySem.W.nsIn K mainGlobals "BadOperation" = some (some (.ref BadOperation)))
    (a_Illegal : PySem.W.nsIn K mainGlobals "Illegal" = some (some (.ref Illegal)))
    (a_BadSize : PySem.W.nsIn K mainGlobals "BadSize" = some (some (.ref BadSize)))
    (a_BadNode : PySem.W.nsIn K mainGlobals "BadNode" = some (some (.ref BadNode)))
    (a_BadGap : PySem.W.nsIn K mainGlobals "BadGap" = some (some (.ref BadGap)))
    (a_BadDump : PySem.W.nsIn K mainGlobals "BadDump" = some (some (.ref BadDump)))
    (a_NotLost : PySem.W.nsIn K mainGlobals "NotLost" = some (some (.ref NotLost)))
    (d_LinkError : DC K LinkError)
    (d_LogError : DC K LogError)
    (d_BadOperation : DC K BadOperation)
    (d_Illegal : DC K Illegal)
    (d_BadSize : DC K BadSize)
    (d_BadNode : DC K BadNode)
    (d_BadGap : DC K BadGap)
    (d_BadDump : DC K BadDump)
    (d_NotLost : DC K NotLost)
    (x_BadOperation : LkX.ExcTxt P K BadOperation i_BadOperation ["operation", "index"])
    (e_BadOperation : ExcC K BadOperation ∧ XfC K BadOperation)
    (s_BadOperation_LinkError : PySem.W.subIn K (.ref BadOperation) (.ref LinkError) = some true)
    (s_BadOperation_LogError : PySem.W.subIn K (.ref BadOperation) (.ref LogError) = some true)
    (s_BadOperation_BadOperation : PySem.W.subIn K (.ref BadOperation) (.ref BadOperation) = some true)
    (s_BadOperation_Illegal : PySem.W.subIn K (.ref BadOperation) (.ref Illegal) = some false)
    (s_BadOperation_BadSize : PySem.W.subIn K (.ref BadOperation) (.ref BadSize) = some false)
    (s_BadOperation_BadNode : PySem.W.subIn K (.ref BadOperation) (.ref BadNode) = some false)
    (s_BadOperation_BadGap : PySem.W.subIn K (.ref BadOperation) (.ref BadGap) = some false)
    (s_BadOperation_BadDump : PySem.W.subIn K (.ref BadOperation) (.ref BadDump) = some false)
    (s_BadOperation_NotLost : PySem.W.subIn K (.ref BadOperation) (.ref NotLost) = some false)
    (x_Illegal : LkX.ExcTxt P K Illegal i_Illegal ["operation", "index"])
    (e_Illegal : ExcC K Illegal ∧ XfC K Illegal)
    (s_Illegal_LinkError : PySem.W.subIn K (.ref Illegal) (.ref LinkError) = some true)
    (s_Illegal_LogError : PySem.W.subIn K (.ref Illegal) (.ref LogError) = some true)
    (s_Illegal_BadOperation : PySem.W.subIn K (.ref Illegal) (.ref BadOperation) = some false)
    (s_Illegal_Illegal : PySem.W.subIn K (.ref Illegal) (.ref Illegal) = some true)
    (s_Illegal_BadSize : PySem.W.subIn K (.ref Illegal) (.ref BadSize) = some false)
    (s_Illegal_BadNode : PySem.W.subIn K (.ref Illegal) (.ref BadNode) = some false)
    (s_Illegal_BadGap : PySem.W.subIn K (.ref Illegal) (.ref BadGap) = some false)
    (s_Illegal_BadDump : PySem.W.subIn K (.ref Illegal) (.ref BadDump) = some false)
    (s_Illegal_NotLost : PySem.W.subIn K (.ref Illegal) (.ref NotLost) = some false)
    (x_BadSize : LkX.ExcTxt P K BadSize i_BadSize ["size"])
    (e_BadSize : ExcC K BadSize ∧ XfC K BadSize)
    (s_BadSize_LinkError : PySem.W.subIn K (.ref BadSize) (.ref LinkError) = some true)
    (s_BadSize_LogError : PySem.W.subIn K (.ref BadSize) (.ref LogError) = some false)
    (s_BadSize_BadOperation : PySem.W.subIn K (.ref BadSize) (.ref BadOperation) = some false)
    (s_BadSize_Illegal : PySem.W.subIn K (.ref BadSize) (.ref Illegal) = some false)
    (s_BadSize_BadSize : PySem.W.subIn K (.ref BadSize) (.ref BadSize) = some true)
    (s_BadSize_BadNode : PySem.W.subIn K (.ref BadSize) (.ref BadNode) = some false)
    (s_BadSize_BadGap : PySem.W.subIn K (.ref BadSize) (.ref BadGap) = some false)
    (s_BadSize_BadDump : PySem.W.subIn K (.ref BadSize) (.ref BadDump) = some false)
    (s_BadSize_NotLost : PySem.W.subIn K (.ref BadSize) (.ref NotLost) = some false)
    (x_BadNode : LkX.ExcTxt P K BadNode i_BadNode ["node"])
    (e_BadNode : ExcC K BadNode ∧ XfC K BadNode)
    (s_BadNode_LinkError : PySem.W.subIn K (.ref BadNode) (.ref LinkError) = some true)
    (s_BadNode_LogError : PySem.W.subIn K (.ref BadNode) (.ref LogError) = some false)
    (s_BadNode_BadOperation : PySem.W.subIn K (.ref BadNode) (.ref BadOperation) = some false)
    (s_BadNode_Illegal : PySem.W.subIn K (.ref BadNode) (.ref Illegal) = some false)
    (s_BadNode_BadSize : PySem.W.subIn K (.ref BadNode) (.ref BadSize) = some false)
    (s_BadNode_BadNode : PySem.W.subIn K (.ref BadNode) (.ref BadNode) = some true)
    (s_BadNode_BadGap : PySem.W.subIn K (.ref BadNode) (.ref BadGap) = some false)
    (s_BadNode_BadDump : PySem.W.subIn K (.ref BadNode) (.ref BadDump) = some false)
    (s_BadNode_NotLost : PySem.W.subIn K (.ref BadNode) (.ref NotLost) = some false)
    (x_BadGap : LkX.ExcTxt P K BadGap i_BadGap ["gap"])
    (e_BadGap : ExcC K BadGap ∧ XfC K BadGap)
    (s_BadGap_LinkError : PySem.W.subIn K (.ref BadGap) (.ref LinkError) = some true)
    (s_BadGap_LogError : PySem.W.subIn K (.ref BadGap) (.ref LogError) = some false)
    (s_BadGap_BadOperation : PySem.W.subIn K (.ref BadGap) (.ref BadOperation) = some false)
    (s_BadGap_Illegal : PySem.W.subIn K (.ref BadGap) (.ref Illegal) = some false)
    (s_BadGap_BadSize : PySem.W.subIn K (.ref BadGap) (.ref BadSize) = some false)
    (s_BadGap_BadNode : PySem.W.subIn K (.ref BadGap) (.ref BadNode) = some false)
    (s_BadGap_BadGap : PySem.W.subIn K (.ref BadGap) (.ref BadGap) = some true)
    (s_BadGap_BadDump : PySem.W.subIn K (.ref BadGap) (.ref BadDump) = some false)
    (s_BadGap_NotLost : PySem.W.subIn K (.ref BadGap) (.ref NotLost) = some false)
    (x_BadDump : LkX.ExcTxt P K BadDump i_BadDump ["part"])
    (e_BadDump : ExcC K BadDump ∧ XfC K BadDump)
    (s_BadDump_LinkError : PySem.W.subIn K (.ref BadDump) (.ref LinkError) = some true)
    (s_BadDump_LogError : PySem.W.subIn K (.ref BadDump) (.ref LogError) = some false)
    (s_BadDump_BadOperation : PySem.W.subIn K (.ref BadDump) (.ref BadOperation) = some false)
    (s_BadDump_Illegal : PySem.W.subIn K (.ref BadDump) (.ref Illegal) = some false)
    (s_BadDump_BadSize : PySem.W.subIn K (.ref BadDump) (.ref BadSize) = some false)
    (s_BadDump_BadNode : PySem.W.subIn K (.ref BadDump) (.ref BadNode) = some false)
    (s_BadDump_BadGap : PySem.W.subIn K (.ref BadDump) (.ref BadGap) = some false)
    (s_BadDump_BadDump : PySem.W.subIn K (.ref BadDump) (.ref BadDump) = some true)
    (s_BadDump_NotLost : PySem.W.subIn K (.ref BadDump) (.ref NotLost) = some false)
    (x_NotLost : LkX.ExcTxt P K NotLost i_NotLost ["size"])
    (e_NotLost : ExcC K NotLost ∧ XfC K NotLost)
    (s_NotLost_LinkError : PySem.W.subIn K (.ref NotLost) (.ref LinkError) = some true)
    (s_NotLost_LogError : PySem.W.subIn K (.ref NotLost) (.ref LogError) = some false)
    (s_NotLost_BadOperation : PySem.W.subIn K (.ref NotLost) (.ref BadOperation) = some false)
    (s_NotLost_Illegal : PySem.W.subIn K (.ref NotLost) (.ref Illegal) = some false)
    (s_NotLost_BadSize : PySem.W.subIn K (.ref NotLost) (.ref BadSize) = some false)
    (s_NotLost_BadNode : PySem.W.subIn K (.ref NotLost) (.ref BadNode) = some false)
    (s_NotLost_BadGap : PySem.W.subIn K (.ref NotLost) (.ref BadGap) = some false)
    (s_NotLost_BadDump : PySem.W.subIn K (.ref NotLost) (.ref BadDump) = some false)
    (s_NotLost_NotLost : PySem.W.subIn K (.ref NotLost) (.ref NotLost) = some true)
    (a_check_size : PySem.W.nsIn K mainGlobals "check_size" = some (some (.ref f_check_size))) (l_check_size : K.lookup f_check_size = some ⟨oc_check_size, od_check_size, .func (PySem.W.fnOf "check_size" "check_size" (defArgs s_check_size) (defBody s_check_size) (defScope s_check_size) .none kV_check_size dc_check_size pm_check_size an_check_size cd_check_size ct_check_size), sl_check_size⟩) (c_check_size : PySem.W.codeIn K cd_check_size "check_size" = true) (k_check_size : PySem.W.keepIn K (.ref f_check_size) = true)
    (a_check_operation : PySem.W.nsIn K mainGlobals "check_operation" = some (some (.ref f_check_operation))) (l_check_operation : K.lookup f_check_operation = some ⟨oc_check_operation, od_check_operation, .func (PySem.W.fnOf "check_operation" "check_operation" (defArgs s_check_operation) (defBody s_check_operation) (defScope s_check_operation) .none kV_check_operation dc_check_operation pm_check_operation an_check_operation cd_check_operation ct_check_operation), sl_check_operation⟩) (c_check_operation : PySem.W.codeIn K cd_check_operation "check_operation" = true) (k_check_operation : PySem.W.keepIn K (.ref f_check_operation) = true)
    (a_check_log : PySem.W.nsIn K mainGlobals "check_log" = some (some (.ref f_check_log))) (l_check_log : K.lookup f_check_log = some ⟨oc_check_log, od_check_log, .func (PySem.W.fnOf "check_log" "check_log" (defArgs s_check_log) (defBody s_check_log) (defScope s_check_log) .none kV_check_log dc_check_log pm_check_log an_check_log cd_check_log ct_check_log), sl_check_log⟩) (c_check_log : PySem.W.codeIn K cd_check_log "check_log" = true) (k_check_log : PySem.W.keepIn K (.ref f_check_log) = true)
    (a__is_legal : PySem.W.nsIn K mainGlobals "_is_legal" = some (some (.ref f__is_legal))) (l__is_legal : K.lookup f__is_legal = some ⟨oc__is_legal, od__is_legal, .func (PySem.W.fnOf "_is_legal" "_is_legal" (defArgs s__is_legal) (defBody s__is_legal) (defScope s__is_legal) .none kV__is_legal dc__is_legal pm__is_legal an__is_legal cd__is_legal ct__is_legal), sl__is_legal⟩) (c__is_legal : PySem.W.codeIn K cd__is_legal "_is_legal" = true) (k__is_legal : PySem.W.keepIn K (.ref f__is_legal) = true)
    (a_check_gap : PySem.W.nsIn K mainGlobals "check_gap" = some (some (.ref f_check_gap))) (l_check_gap : K.lookup f_check_gap = some ⟨oc_check_gap, od_check_gap, .func (PySem.W.fnOf "check_gap" "check_gap" (defArgs s_check_gap) (defBody s_check_gap) (defScope s_check_gap) .none kV_check_gap dc_check_gap pm_check_gap an_check_gap cd_check_gap ct_check_gap), sl_check_gap⟩) (c_check_gap : PySem.W.codeIn K cd_check_gap "check_gap" = true) (k_check_gap : PySem.W.keepIn K (.ref f_check_gap) = true)
    (a_left_holds : PySem.W.nsIn K mainGlobals "left_holds" = some (some (.ref f_left_holds))) (l_left_holds : K.lookup f_left_holds = some ⟨oc_left_holds, od_left_holds, .func (PySem.W.fnOf "left_holds" "left_holds" (defArgs s_left_holds) (defBody s_left_holds) (defScope s_left_holds) .none kV_left_holds dc_left_holds pm_left_holds an_left_holds cd_left_holds ct_left_holds), sl_left_holds⟩) (c_left_holds : PySem.W.codeIn K cd_left_holds "left_holds" = true) (k_left_holds : PySem.W.keepIn K (.ref f_left_holds) = true)
    (a_right_holds : PySem.W.nsIn K mainGlobals "right_holds" = some (some (.ref f_right_holds))) (l_right_holds : K.lookup f_right_holds = some ⟨oc_right_holds, od_right_holds, .func (PySem.W.fnOf "right_holds" "right_holds" (defArgs s_right_holds) (defBody s_right_holds) (defScope s_right_holds) .none kV_right_holds dc_right_holds pm_right_holds an_right_holds cd_right_holds ct_right_holds), sl_right_holds⟩) (c_right_holds : PySem.W.codeIn K cd_right_holds "right_holds" = true) (k_right_holds : PySem.W.keepIn K (.ref f_right_holds) = true)
    (a_gap_state : PySem.W.nsIn K mainGlobals "gap_state" = some (some (.ref f_gap_state))) (l_gap_state : K.lookup f_gap_state = some ⟨oc_gap_state, od_gap_state, .func (PySem.W.fnOf "gap_state" "gap_state" (defArgs s_gap_state) (defBody s_gap_state) (defScope s_gap_state) .none kV_gap_state dc_gap_state pm_gap_state an_gap_state cd_gap_state ct_gap_state), sl_gap_state⟩) (c_gap_state : PySem.W.codeIn K cd_gap_state "gap_state" = true) (k_gap_state : PySem.W.keepIn K (.ref f_gap_state) = true)
    (a_gap_states : PySem.W.nsIn K mainGlobals "gap_states" = some (some (.ref f_gap_states))) (l_gap_states : K.lookup f_gap_states = some ⟨oc_gap_states, od_gap_states, .func (PySem.W.fnOf "gap_states" "gap_states" (defArgs s_gap_states) (defBody s_gap_states) (defScope s_gap_states) .none kV_gap_states dc_gap_states pm_gap_states an_gap_states cd_gap_states ct_gap_states), sl_gap_states⟩) (c_gap_states : PySem.W.codeIn K cd_gap_states "gap_states" = true) (k_gap_states : PySem.W.keepIn K (.ref f_gap_states) = true)
    (a_lost_gaps : PySem.W.nsIn K mainGlobals "lost_gaps" = some (some (.ref f_lost_gaps))) (l_lost_gaps : K.lookup f_lost_gaps = some ⟨oc_lost_gaps, od_lost_gaps, .func (PySem.W.fnOf "lost_gaps" "lost_gaps" (defArgs s_lost_gaps) (defBody s_lost_gaps) (defScope s_lost_gaps) .none kV_lost_gaps dc_lost_gaps pm_lost_gaps an_lost_gaps cd_lost_gaps ct_lost_gaps), sl_lost_gaps⟩) (c_lost_gaps : PySem.W.codeIn K cd_lost_gaps "lost_gaps" = true) (k_lost_gaps : PySem.W.keepIn K (.ref f_lost_gaps) = true)
    (a_replay : PySem.W.nsIn K mainGlobals "replay" = some (some (.ref f_replay))) (l_replay : K.lookup f_replay = some ⟨oc_replay, od_replay, .func (PySem.W.fnOf "replay" "replay" (defArgs s_replay) (defBody s_replay) (defScope s_replay) .none kV_replay dc_replay pm_replay an_replay cd_replay ct_replay), sl_replay⟩) (c_replay : PySem.W.codeIn K cd_replay "replay" = true) (k_replay : PySem.W.keepIn K (.ref f_replay) = true)
    (a_decided_by : PySem.W.nsIn K mainGlobals "decided_by" = some (some (.ref f_decided_by))) (l_decided_by : K.lookup f_decided_by = some ⟨oc_decided_by, od_decided_by, .func (PySem.W.fnOf "decided_by" "decided_by" (defArgs s_decided_by) (defBody s_decided_by) (defScope s_decided_by) .none kV_decided_by dc_decided_by pm_decided_by an_decided_by cd_decided_by ct_decided_by), sl_decided_by⟩) (c_decided_by : PySem.W.codeIn K cd_decided_by "decided_by" = true) (k_decided_by : PySem.W.keepIn K (.ref f_decided_by) = true)
    (a__certificate : PySem.W.nsIn K mainGlobals "_certificate" = some (some (.ref f__certificate))) (l__certificate : K.lookup f__certificate = some ⟨oc__certificate, od__certificate, .func (PySem.W.fnOf "_certificate" "_certificate" (defArgs s__certificate) (defBody s__certificate) (defScope s__certificate) .none kV__certificate dc__certificate pm__certificate an__certificate cd__certificate ct__certificate), sl__certificate⟩) (c__certificate : PySem.W.codeIn K cd__certificate "_certificate" = true) (k__certificate : PySem.W.keepIn K (.ref f__certificate) = true)
    (a__is_integer : PySem.W.nsIn K mainGlobals "_is_integer" = some (some (.ref f__is_integer))) (l__is_integer : K.lookup f__is_integer = some ⟨oc__is_integer, od__is_integer, .func (PySem.W.fnOf "_is_integer" "_is_integer" (defArgs s__is_integer) (defBody s__is_integer) (defScope s__is_integer) .none kV__is_integer dc__is_integer pm__is_integer an__is_integer cd__is_integer ct__is_integer), sl__is_integer⟩) (c__is_integer : PySem.W.codeIn K cd__is_integer "_is_integer" = true) (k__is_integer : PySem.W.keepIn K (.ref f__is_integer) = true)
    (a_loss_certificate : PySem.W.nsIn K mainGlobals "loss_certificate" = some (some (.ref f_loss_certificate))) (l_loss_certificate : K.lookup f_loss_certificate = some ⟨oc_loss_certificate, od_loss_certificate, .func (PySem.W.fnOf "loss_certificate" "loss_certificate" (defArgs s_loss_certificate) (defBody s_loss_certificate) (defScope s_loss_certificate) .none kV_loss_certificate dc_loss_certificate pm_loss_certificate an_loss_certificate cd_loss_certificate ct_loss_certificate), sl_loss_certificate⟩) (c_loss_certificate : PySem.W.codeIn K cd_loss_certificate "loss_certificate" = true) (k_loss_certificate : PySem.W.keepIn K (.ref f_loss_certificate) = true)
    (a_is_loss_certificate : PySem.W.nsIn K mainGlobals "is_loss_certificate" = some (some (.ref f_is_loss_certificate))) (l_is_loss_certificate : K.lookup f_is_loss_certificate = some ⟨oc_is_loss_certificate, od_is_loss_certificate, .func (PySem.W.fnOf "is_loss_certificate" "is_loss_certificate" (defArgs s_is_loss_certificate) (defBody s_is_loss_certificate) (defScope s_is_loss_certificate) .none kV_is_loss_certificate dc_is_loss_certificate pm_is_loss_certificate an_is_loss_certificate cd_is_loss_certificate ct_is_loss_certificate), sl_is_loss_certificate⟩) (c_is_loss_certificate : PySem.W.codeIn K cd_is_loss_certificate "is_loss_certificate" = true) (k_is_loss_certificate : PySem.W.keepIn K (.ref f_is_loss_certificate) = true)
    (a__law_bag : PySem.W.nsIn K mainGlobals "_law_bag" = some (some (.ref f__law_bag))) (l__law_bag : K.lookup f__law_bag = some ⟨oc__law_bag, od__law_bag, .func (PySem.W.fnOf "_law_bag" "_law_bag" (defArgs s__law_bag) (defBody s__law_bag) (defScope s__law_bag) .none kV__law_bag dc__law_bag pm__law_bag an__law_bag cd__law_bag ct__law_bag), sl__law_bag⟩) (c__law_bag : PySem.W.codeIn K cd__law_bag "_law_bag" = true) (k__law_bag : PySem.W.keepIn K (.ref f__law_bag) = true)
    (a__law_draw : PySem.W.nsIn K mainGlobals "_law_draw" = some (some (.ref f__law_draw))) (l__law_draw : K.lookup f__law_draw = some ⟨oc__law_draw, od__law_draw, .func (PySem.W.fnOf "_law_draw" "_law_draw" (defArgs s__law_draw) (defBody s__law_draw) (defScope s__law_draw) .none kV__law_draw dc__law_draw pm__law_draw an__law_draw cd__law_draw ct__law_draw), sl__law_draw⟩) (c__law_draw : PySem.W.codeIn K cd__law_draw "_law_draw" = true) (k__law_draw : PySem.W.keepIn K (.ref f__law_draw) = true)
    (a__law_whole : PySem.W.nsIn K mainGlobals "_law_whole" = some (some (.ref f__law_whole))) (l__law_whole : K.lookup f__law_whole = some ⟨oc__law_whole, od__law_whole, .func (PySem.W.fnOf "_law_whole" "_law_whole" (defArgs s__law_whole) (defBody s__law_whole) (defScope s__law_whole) .none kV__law_whole dc__law_whole pm__law_whole an__law_whole cd__law_whole ct__law_whole), sl__law_whole⟩) (c__law_whole : PySem.W.codeIn K cd__law_whole "_law_whole" = true) (k__law_whole : PySem.W.keepIn K (.ref f__law_whole) = true)
    (a__law_step : PySem.W.nsIn K mainGlobals "_law_step" = some (some (.ref f__law_step))) (l__law_step : K.lookup f__law_step = some ⟨oc__law_step, od__law_step, .func (PySem.W.fnOf "_law_step" "_law_step" (defArgs s__law_step) (defBody s__law_step) (defScope s__law_step) .none kV__law_step dc__law_step pm__law_step an__law_step cd__law_step ct__law_step), sl__law_step⟩) (c__law_step : PySem.W.codeIn K cd__law_step "_law_step" = true) (k__law_step : PySem.W.keepIn K (.ref f__law_step) = true)
    (a__law_operation : PySem.W.nsIn K mainGlobals "_law_operation" = some (some (.ref f__law_operation))) (l__law_operation : K.lookup f__law_operation = some ⟨oc__law_operation, od__law_operation, .func (PySem.W.fnOf "_law_operation" "_law_operation" (defArgs s__law_operation) (defBody s__law_operation) (defScope s__law_operation) .none kV__law_operation dc__law_operation pm__law_operation an__law_operation cd__law_operation ct__law_operation), sl__law_operation⟩) (c__law_operation : PySem.W.codeIn K cd__law_operation "_law_operation" = true) (k__law_operation : PySem.W.keepIn K (.ref f__law_operation) = true)
    (a__law_state : PySem.W.nsIn K mainGlobals "_law_state" = some (some (.ref f__law_state))) (l__law_state : K.lookup f__law_state = some ⟨oc__law_state, od__law_state, .func (PySem.W.fnOf "_law_state" "_law_state" (defArgs s__law_state) (defBody s__law_state) (defScope s__law_state) .none kV__law_state dc__law_state pm__law_state an__law_state cd__law_state ct__law_state), sl__law_state⟩) (c__law_state : PySem.W.codeIn K cd__law_state "_law_state" = true) (k__law_state : PySem.W.keepIn K (.ref f__law_state) = true)
    (a__law_number : PySem.W.nsIn K mainGlobals "_law_number" = some (some (.ref f__law_number))) (l__law_number : K.lookup f__law_number = some ⟨oc__law_number, od__law_number, .func (PySem.W.fnOf "_law_number" "_law_number" (defArgs s__law_number) (defBody s__law_number) (defScope s__law_number) .none kV__law_number dc__law_number pm__law_number an__law_number cd__law_number ct__law_number), sl__law_number⟩) (c__law_number : PySem.W.codeIn K cd__law_number "_law_number" = true) (k__law_number : PySem.W.keepIn K (.ref f__law_number) = true)
    (a__law_size : PySem.W.nsIn K mainGlobals "_law_size" = some (some (.ref f__law_size))) (l__law_size : K.lookup f__law_size = some ⟨oc__law_size, od__law_size, .func (PySem.W.fnOf "_law_size" "_law_size" (defArgs s__law_size) (defBody s__law_size) (defScope s__law_size) .none kV__law_size dc__law_size pm__law_size an__law_size cd__law_size ct__law_size), sl__law_size⟩) (c__law_size : PySem.W.codeIn K cd__law_size "_law_size" = true) (k__law_size : PySem.W.keepIn K (.ref f__law_size) = true)
    (a__law_lanes : PySem.W.nsIn K mainGlobals "_law_lanes" = some (some (.ref f__law_lanes))) (l__law_lanes : K.lookup f__law_lanes = some ⟨oc__law_lanes, od__law_lanes, .func (PySem.W.fnOf "_law_lanes" "_law_lanes" (defArgs s__law_lanes) (defBody s__law_lanes) (defScope s__law_lanes) .none kV__law_lanes dc__law_lanes pm__law_lanes an__law_lanes cd__law_lanes ct__law_lanes), sl__law_lanes⟩) (c__law_lanes : PySem.W.codeIn K cd__law_lanes "_law_lanes" = true) (k__law_lanes : PySem.W.keepIn K (.ref f__law_lanes) = true)
    (a__law_nodes : PySem.W.nsIn K mainGlobals "_law_nodes" = some (some (.ref f__law_nodes))) (l__law_nodes : K.lookup f__law_nodes = some ⟨oc__law_nodes, od__law_nodes, .func (PySem.W.fnOf "_law_nodes" "_law_nodes" (defArgs s__law_nodes) (defBody s__law_nodes) (defScope s__law_nodes) .none kV__law_nodes dc__law_nodes pm__law_nodes an__law_nodes cd__law_nodes ct__law_nodes), sl__law_nodes⟩) (c__law_nodes : PySem.W.codeIn K cd__law_nodes "_law_nodes" = true) (k__law_nodes : PySem.W.keepIn K (.ref f__law_nodes) = true)
    (a__law_log : PySem.W.nsIn K mainGlobals "_law_log" = some (some (.ref f__law_log))) (l__law_log : K.lookup f__law_log = some ⟨oc__law_log, od__law_log, .func (PySem.W.fnOf "_law_log" "_law_log" (defArgs s__law_log) (defBody s__law_log) (defScope s__law_log) .none kV__law_log dc__law_log pm__law_log an__law_log cd__law_log ct__law_log), sl__law_log⟩) (c__law_log : PySem.W.codeIn K cd__law_log "_law_log" = true) (k__law_log : PySem.W.keepIn K (.ref f__law_log) = true)
    (a__law_losses : PySem.W.nsIn K mainGlobals "_law_losses" = some (some (.ref f__law_losses))) (l__law_losses : K.lookup f__law_losses = some ⟨oc__law_losses, od__law_losses, .func (PySem.W.fnOf "_law_losses" "_law_losses" (defArgs s__law_losses) (defBody s__law_losses) (defScope s__law_losses) .none kV__law_losses dc__law_losses pm__law_losses an__law_losses cd__law_losses ct__law_losses), sl__law_losses⟩) (c__law_losses : PySem.W.codeIn K cd__law_losses "_law_losses" = true) (k__law_losses : PySem.W.keepIn K (.ref f__law_losses) = true)
    (a__law_told : PySem.W.nsIn K mainGlobals "_law_told" = some (some (.ref f__law_told))) (l__law_told : K.lookup f__law_told = some ⟨oc__law_told, od__law_told, .func (PySem.W.fnOf "_law_told" "_law_told" (defArgs s__law_told) (defBody s__law_told) (defScope s__law_told) .none kV__law_told dc__law_told pm__law_told an__law_told cd__law_told ct__law_told), sl__law_told⟩) (c__law_told : PySem.W.codeIn K cd__law_told "_law_told" = true) (k__law_told : PySem.W.keepIn K (.ref f__law_told) = true)
    (a__law_fits : PySem.W.nsIn K mainGlobals "_law_fits" = some (some (.ref f__law_fits))) (l__law_fits : K.lookup f__law_fits = some ⟨oc__law_fits, od__law_fits, .func (PySem.W.fnOf "_law_fits" "_law_fits" (defArgs s__law_fits) (defBody s__law_fits) (defScope s__law_fits) .none kV__law_fits dc__law_fits pm__law_fits an__law_fits cd__law_fits ct__law_fits), sl__law_fits⟩) (c__law_fits : PySem.W.codeIn K cd__law_fits "_law_fits" = true) (k__law_fits : PySem.W.keepIn K (.ref f__law_fits) = true)
    (a__law_is_triple : PySem.W.nsIn K mainGlobals "_law_is_triple" = some (some (.ref f__law_is_triple))) (l__law_is_triple : K.lookup f__law_is_triple = some ⟨oc__law_is_triple, od__law_is_triple, .func (PySem.W.fnOf "_law_is_triple" "_law_is_triple" (defArgs s__law_is_triple) (defBody s__law_is_triple) (defScope s__law_is_triple) .none kV__law_is_triple dc__law_is_triple pm__law_is_triple an__law_is_triple cd__law_is_triple ct__law_is_triple), sl__law_is_triple⟩) (c__law_is_triple : PySem.W.codeIn K cd__law_is_triple "_law_is_triple" = true) (k__law_is_triple : PySem.W.keepIn K (.ref f__law_is_triple) = true)
    (a__law_certified : PySem.W.nsIn K mainGlobals "_law_certified" = some (some (.ref f__law_certified))) (l__law_certified : K.lookup f__law_certified = some ⟨oc__law_certified, od__law_certified, .func (PySem.W.fnOf "_law_certified" "_law_certified" (defArgs s__law_certified) (defBody s__law_certified) (defScope s__law_certified) .none kV__law_certified dc__law_certified pm__law_certified an__law_certified cd__law_certified ct__law_certified), sl__law_certified⟩) (c__law_certified : PySem.W.codeIn K cd__law_certified "_law_certified" = true) (k__law_certified : PySem.W.keepIn K (.ref f__law_certified) = true)
    (a__law_truth : PySem.W.nsIn K mainGlobals "_law_truth" = some (some (.ref f__law_truth))) (l__law_truth : K.lookup f__law_truth = some ⟨oc__law_truth, od__law_truth, .func (PySem.W.fnOf "_law_truth" "_law_truth" (defArgs s__law_truth) (defBody s__law_truth) (defScope s__law_truth) .none kV__law_truth dc__law_truth pm__law_truth an__law_truth cd__law_truth ct__law_truth), sl__law_truth⟩) (c__law_truth : PySem.W.codeIn K cd__law_truth "_law_truth" = true) (k__law_truth : PySem.W.keepIn K (.ref f__law_truth) = true)
    (a__law_values : PySem.W.nsIn K mainGlobals "_law_values" = some (some (.ref f__law_values))) (l__law_values : K.lookup f__law_values = some ⟨oc__law_values, od__law_values, .func (PySem.W.fnOf "_law_values" "_law_values" (defArgs s__law_values) (defBody s__law_values) (defScope s__law_values) .none kV__law_values dc__law_values pm__law_values an__law_values cd__law_values ct__law_values), sl__law_values⟩) (c__law_values : PySem.W.codeIn K cd__law_values "_law_values" = true) (k__law_values : PySem.W.keepIn K (.ref f__law_values) = true)
    (a__law_judged : PySem.W.nsIn K mainGlobals "_law_judged" = some (some (.ref f__law_judged))) (l__law_judged : K.lookup f__law_judged = some ⟨oc__law_judged, od__law_judged, .func (PySem.W.fnOf "_law_judged" "_law_judged" (defArgs s__law_judged) (defBody s__law_judged) (defScope s__law_judged) .none kV__law_judged dc__law_judged pm__law_judged an__law_judged cd__law_judged ct__law_judged), sl__law_judged⟩) (c__law_judged : PySem.W.codeIn K cd__law_judged "_law_judged" = true) (k__law_judged : PySem.W.keepIn K (.ref f__law_judged) = true)
    (a__law_pairs : PySem.W.nsIn K mainGlobals "_law_pairs" = some (some (.ref f__law_pairs))) (l__law_pairs : K.lookup f__law_pairs = some ⟨oc__law_pairs, od__law_pairs, .func (PySem.W.fnOf "_law_pairs" "_law_pairs" (defArgs s__law_pairs) (defBody s__law_pairs) (defScope s__law_pairs) .none kV__law_pairs dc__law_pairs pm__law_pairs an__law_pairs cd__law_pairs ct__law_pairs), sl__law_pairs⟩) (c__law_pairs : PySem.W.codeIn K cd__law_pairs "_law_pairs" = true) (k__law_pairs : PySem.W.keepIn K (.ref f__law_pairs) = true)
    (a__law_values_fit : PySem.W.nsIn K mainGlobals "_law_values_fit" = some (some (.ref f__law_values_fit))) (l__law_values_fit : K.lookup f__law_values_fit = some ⟨oc__law_values_fit, od__law_values_fit, .func (PySem.W.fnOf "_law_values_fit" "_law_values_fit" (defArgs s__law_values_fit) (defBody s__law_values_fit) (defScope s__law_values_fit) .none kV__law_values_fit dc__law_values_fit pm__law_values_fit an__law_values_fit cd__law_values_fit ct__law_values_fit), sl__law_values_fit⟩) (c__law_values_fit : PySem.W.codeIn K cd__law_values_fit "_law_values_fit" = true) (k__law_values_fit : PySem.W.keepIn K (.ref f__law_values_fit) = true)
    (a__law_both_refuse : PySem.W.nsIn K mainGlobals "_law_both_refuse" = some (some (.ref f__law_both_refuse))) (l__law_both_refuse : K.lookup f__law_both_refuse = some ⟨oc__law_both_refuse, od__law_both_refuse, .func (PySem.W.fnOf "_law_both_refuse" "_law_both_refuse" (defArgs s__law_both_refuse) (defBody s__law_both_refuse) (defScope s__law_both_refuse) .none kV__law_both_refuse dc__law_both_refuse pm__law_both_refuse an__law_both_refuse cd__law_both_refuse ct__law_both_refuse), sl__law_both_refuse⟩) (c__law_both_refuse : PySem.W.codeIn K cd__law_both_refuse "_law_both_refuse" = true) (k__law_both_refuse : PySem.W.keepIn K (.ref f__law_both_refuse) = true)
    (a__law_refusals : PySem.W.nsIn K mainGlobals "_law_refusals" = some (some (.ref f__law_refusals))) (l__law_refusals : K.lookup f__law_refusals = some ⟨oc__law_refusals, od__law_refusals, .func (PySem.W.fnOf "_law_refusals" "_law_refusals" (defArgs s__law_refusals) (defBody s__law_refusals) (defScope s__law_refusals) .none kV__law_refusals dc__law_refusals pm__law_refusals an__law_refusals cd__law_refusals ct__law_refusals), sl__law_refusals⟩) (c__law_refusals : PySem.W.codeIn K cd__law_refusals "_law_refusals" = true) (k__law_refusals : PySem.W.keepIn K (.ref f__law_refusals) = true)
    (a_law : PySem.W.nsIn K mainGlobals "law" = some (some (.ref f_law))) (l_law : K.lookup f_law = some ⟨oc_law, od_law, .func (PySem.W.fnOf "law" "law" (defArgs s_law) (defBody s_law) (defScope s_law) .none kV_law dc_law pm_law an_law cd_law ct_law), sl_law⟩) (c_law : PySem.W.codeIn K cd_law "law" = true) (k_law : PySem.W.keepIn K (.ref f_law) = true)
    (b_ValueError : PySem.W.nsIn K mainGlobals "ValueError" = some none)
    (b_enumerate : PySem.W.nsIn K mainGlobals "enumerate" = some none)
    (b_range : PySem.W.nsIn K mainGlobals "range" = some none)
    (b_list : PySem.W.nsIn K mainGlobals "list" = some none)
    (b_int : PySem.W.nsIn K mainGlobals "int" = some none)
    (b_abs : PySem.W.nsIn K mainGlobals "abs" = some none)
    (b_len : PySem.W.nsIn K mainGlobals "len" = some none)
    (b_isinstance : PySem.W.nsIn K mainGlobals "isinstance" = some none)
    (b_all : PySem.W.nsIn K mainGlobals "all" = some none)
    (b_str : PySem.W.nsIn K mainGlobals "str" = some none)
    (b_bool : PySem.W.nsIn K mainGlobals "bool" = some none)
    (b_tuple : PySem.W.nsIn K mainGlobals "tuple" = some none)
    (b_super : PySem.W.nsIn K mainGlobals "super" = some none)
    (k_MOST_NODES : PySem.W.nsIn K mainGlobals "MOST_NODES" = some (some (.int 60 t_MOST_NODES)))
    (k_MOST_DIGITS : PySem.W.nsIn K mainGlobals "MOST_DIGITS" = some (some (.int 9 t_MOST_DIGITS)))
    (k_PARTS : PySem.W.nsIn K mainGlobals "PARTS" = some (some (.int 3 t_PARTS)))
    : ∃ fd : FuncData, (∀ (s : Shared) (v : Value), BindsTo s fd ⟨[v], []⟩ [("_law_script", v)]) ∧ ∀ base : Heap, K.In base → base.Ns mainGlobals mg → FnOk P w K mg base (L2N.CX P w) 12 fa fd ["_law_script"] (spL K) := by
  have e := hfa.symm.trans (PySem.W.mg_of X G a_law)
  cases e
  have mm_Links___init__ := fun_mk (st := s_Links___init__) l_Links___init__ c_Links___init__ k_Links___init__
  have mm_Links_left := fun_mk (st := s_Links_left) l_Links_left c_Links_left k_Links_left
  have mm_Links_right := fun_mk (st := s_Links_right) l_Links_right c_Links_right k_Links_right
  have mm_Links_apply_at := fun_mk (st := s_Links_apply_at) l_Links_apply_at c_Links_apply_at k_Links_apply_at
  have m_check_size := nm_mk (st := s_check_size) X G a_check_size l_check_size c_check_size k_check_size
  have m_check_operation := nm_mk (st := s_check_operation) X G a_check_operation l_check_operation c_check_operation k_check_operation
  have m_check_log := nm_mk (st := s_check_log) X G a_check_log l_check_log c_check_log k_check_log
  have m__is_legal := nm_mk (st := s__is_legal) X G a__is_legal l__is_legal c__is_legal k__is_legal
  have m_check_gap := nm_mk (st := s_check_gap) X G a_check_gap l_check_gap c_check_gap k_check_gap
  have m_left_holds := nm_mk (st := s_left_holds) X G a_left_holds l_left_holds c_left_holds k_left_holds
  have m_right_holds := nm_mk (st := s_right_holds) X G a_right_holds l_right_holds c_right_holds k_right_holds
  have m_gap_state := nm_mk (st := s_gap_state) X G a_gap_state l_gap_state c_gap_state k_gap_state
  have m_gap_states := nm_mk (st := s_gap_states) X G a_gap_states l_gap_states c_gap_states k_gap_states
  have m_lost_gaps := nm_mk (st := s_lost_gaps) X G a_lost_gaps l_lost_gaps c_lost_gaps k_lost_gaps
  have m_replay := nm_mk (st := s_replay) X G a_replay l_replay c_replay k_replay
  have m_decided_by := nm_mk (st := s_decided_by) X G a_decided_by l_decided_by c_decided_by k_decided_by
  have m__certificate := nm_mk (st := s__certificate) X G a__certificate l__certificate c__certificate k__certificate
  have m__is_integer := nm_mk (st := s__is_integer) X G a__is_integer l__is_integer c__is_integer k__is_integer
  have m_loss_certificate := nm_mk (st := s_loss_certificate) X G a_loss_certificate l_loss_certificate c_loss_certificate k_loss_certificate
  have m_is_loss_certificate := nm_mk (st := s_is_loss_certificate) X G a_is_loss_certificate l_is_loss_certificate c_is_loss_certificate k_is_loss_certificate
  have m__law_bag := nm_mk (st := s__law_bag) X G a__law_bag l__law_bag c__law_bag k__law_bag
  have m__law_draw := nm_mk (st := s__law_draw) X G a__law_draw l__law_draw c__law_draw k__law_draw
  have m__law_whole := nm_mk (st := s__law_whole) X G a__law_whole l__law_whole c__law_whole k__law_whole
  have m__law_step := nm_mk (st := s__law_step) X G a__law_step l__law_step c__law_step k__law_step
  have m__law_operation := nm_mk (st := s__law_operation) X G a__law_operation l__law_operation c__law_operation k__law_operation
  have m__law_state := nm_mk (st := s__law_state) X G a__law_state l__law_state c__law_state k__law_state
  have m__law_number := nm_mk (st := s__law_number) X G a__law_number l__law_number c__law_number k__law_number
  have m__law_size := nm_mk (st := s__law_size) X G a__law_size l__law_size c__law_size k__law_size
  have m__law_lanes := nm_mk (st := s__law_lanes) X G a__law_lanes l__law_lanes c__law_lanes k__law_lanes
  have m__law_nodes := nm_mk (st := s__law_nodes) X G a__law_nodes l__law_nodes c__law_nodes k__law_nodes
  have m__law_log := nm_mk (st := s__law_log) X G a__law_log l__law_log c__law_log k__law_log
  have m__law_losses := nm_mk (st := s__law_losses) X G a__law_losses l__law_losses c__law_losses k__law_losses
  have m__law_told := nm_mk (st := s__law_told) X G a__law_told l__law_told c__law_told k__law_told
  have m__law_fits := nm_mk (st := s__law_fits) X G a__law_fits l__law_fits c__law_fits k__law_fits
  have m__law_is_triple := nm_mk (st := s__law_is_triple) X G a__law_is_triple l__law_is_triple c__law_is_triple k__law_is_triple
  have m__law_certified := nm_mk (st := s__law_certified) X G a__law_certified l__law_certified c__law_certified k__law_certified
  have m__law_truth := nm_mk (st := s__law_truth) X G a__law_truth l__law_truth c__law_truth k__law_truth
  have m__law_values := nm_mk (st := s__law_values) X G a__law_values l__law_values c__law_values k__law_values
  have m__law_judged := nm_mk (st := s__law_judged) X G a__law_judged l__law_judged c__law_judged k__law_judged
  have m__law_pairs := nm_mk (st := s__law_pairs) X G a__law_pairs l__law_pairs c__law_pairs k__law_pairs
  have m__law_values_fit := nm_mk (st := s__law_values_fit) X G a__law_values_fit l__law_values_fit c__law_values_fit k__law_values_fit
  have m__law_both_refuse := nm_mk (st := s__law_both_refuse) X G a__law_both_refuse l__law_both_refuse c__law_both_refuse k__law_both_refuse
  have m__law_refusals := nm_mk (st := s__law_refusals) X G a__law_refusals l__law_refusals c__law_refusals k__law_refusals
  have m_law := nm_mk (st := s_law) X G a_law l_law c_law k_law
  have T : Txt P K mg ⟨f_check_size, f_check_operation, f_check_log, f__is_legal, f_check_gap, f_left_holds, f_right_holds, f_gap_state, f_gap_states, f_lost_gaps, f_replay, f_decided_by, f__certificate, f__is_integer, f_loss_certificate, f_is_loss_certificate, f__law_bag, f__law_draw, f__law_whole, f__law_step, f__law_operation, f__law_state, f__law_number, f__law_size, f__law_lanes, f__law_nodes, f__law_log, f__law_losses, f__law_told, f__law_fits, f__law_is_triple, f__law_certified, f__law_truth, f__law_values, f__law_judged, f__law_pairs, f__law_values_fit, f__law_both_refuse, f__law_refusals, fa, f_Links___init__, f_Links_left, f_Links_right, f_Links_apply_at, Links, LinkError, LogError, BadOperation, i_BadOperation, Illegal, i_Illegal, BadSize, i_BadSize, BadNode, i_BadNode, BadGap, i_BadGap, BadDump, i_BadDump, NotLost, i_NotLost⟩ :=
    { n_check_size := m_check_size.1,
      F_check_size := ⟨_, m_check_size.2, Fun.binds (ps := ["size"]) m_check_size.2 fun _ _ _ _ _ _ us hl => match us, hl with | [_], _ => rfl⟩,
      n_check_operation := m_check_operation.1,
      F_check_operation := ⟨_, m_check_operation.2, Fun.binds (ps := ["size", "operation", "index"]) m_check_operation.2 fun _ _ _ _ _ _ us hl => match us, hl with | [_, _, _], _ => rfl⟩,
      n_check_log := m_check_log.1,
      F_check_log := ⟨_, m_check_log.2, Fun.binds (ps := ["size", "log"]) m_check_log.2 fun _ _ _ _ _ _ us hl => match us, hl with | [_, _], _ => rfl⟩,
      n__is_legal := m__is_legal.1,
      F__is_legal := ⟨_, m__is_legal.2, Fun.binds (ps := ["flags", "operation"]) m__is_legal.2 fun _ _ _ _ _ _ us hl => match us, hl with | [_, _], _ => rfl⟩,
      n_check_gap := m_check_gap.1,
      F_check_gap := ⟨_, m_check_gap.2, Fun.binds (ps := ["size", "gap"]) m_check_gap.2 fun _ _ _ _ _ _ us hl => match us, hl with | [_, _], _ => rfl⟩,
      n_left_holds := m_left_holds.1,
      F_left_holds := ⟨_, m_left_holds.2, Fun.binds (ps := ["links", "gap"]) m_left_holds.2 fun _ _ _ _ _ _ us hl => match us, hl with | [_, _], _ => rfl⟩,
      n_right_holds := m_right_holds.1,
      F_right_holds := ⟨_, m_right_holds.2, Fun.binds (ps := ["links", "gap"]) m_right_holds.2 fun _ _ _ _ _ _ us hl => match us, hl with | [_, _], _ => rfl⟩,
      n_gap_state := m_gap_state.1,
      F_gap_state := ⟨_, m_gap_state.2, Fun.binds (ps := ["links", "gap"]) m_gap_state.2 fun _ _ _ _ _ _ us hl => match us, hl with | [_, _], _ => rfl⟩,
      n_gap_states := m_gap_states.1,
      F_gap_states := ⟨_, m_gap_states.2, Fun.binds (ps := ["links"]) m_gap_states.2 fun _ _ _ _ _ _ us hl => match us, hl with | [_], _ => rfl⟩,
      n_lost_gaps := m_lost_gaps.1,
      F_lost_gaps := ⟨_, m_lost_gaps.2, Fun.binds (ps := ["links"]) m_lost_gaps.2 fun _ _ _ _ _ _ us hl => match us, hl with | [_], _ => rfl⟩,
      n_replay := m_replay.1,
      F_replay := ⟨_, m_replay.2, Fun.binds (ps := ["size", "log"]) m_replay.2 fun _ _ _ _ _ _ us hl => match us, hl with | [_, _], _ => rfl⟩,
      n_decided_by := m_decided_by.1,
      F_decided_by := ⟨_, m_decided_by.2, Fun.binds (ps := ["size", "log", "gap"]) m_decided_by.2 fun _ _ _ _ _ _ us hl => match us, hl with | [_, _, _], _ => rfl⟩,
      n__certificate := m__certificate.1,
      F__certificate := ⟨_, m__certificate.2, Fun.binds (ps := ["size", "log", "gap"]) m__certificate.2 fun _ _ _ _ _ _ us hl => match us, hl with | [_, _, _], _ => rfl⟩,
      n__is_integer := m__is_integer.1,
      F__is_integer := ⟨_, m__is_integer.2, Fun.binds (ps := ["value"]) m__is_integer.2 fun _ _ _ _ _ _ us hl => match us, hl with | [_], _ => rfl⟩,
      n_loss_certificate := m_loss_certificate.1,
      F_loss_certificate := ⟨_, m_loss_certificate.2, Fun.binds (ps := ["size", "log"]) m_loss_certificate.2 fun _ _ _ _ _ _ us hl => match us, hl with | [_, _], _ => rfl⟩,
      n_is_loss_certificate := m_is_loss_certificate.1,
      F_is_loss_certificate := ⟨_, m_is_loss_certificate.2, Fun.binds (ps := ["size", "log", "value"]) m_is_loss_certificate.2 fun _ _ _ _ _ _ us hl => match us, hl with | [_, _, _], _ => rfl⟩,
      n__law_bag := m__law_bag.1,
      F__law_bag := ⟨_, m__law_bag.2, Fun.binds (ps := ["_law_script"]) m__law_bag.2 fun _ _ _ _ _ _ us hl => match us, hl with | [_], _ => rfl⟩,
      n__law_draw := m__law_draw.1,
      F__law_draw := ⟨_, m__law_draw.2, Fun.binds (ps := ["_law_bag_here", "_law_many"]) m__law_draw.2 fun _ _ _ _ _ _ us hl => match us, hl with | [_, _], _ => rfl⟩,
      n__law_whole := m__law_whole.1,
      F__law_whole := ⟨_, m__law_whole.2, Fun.binds (ps := ["_law_size_here"]) m__law_whole.2 fun _ _ _ _ _ _ us hl => match us, hl with | [_], _ => rfl⟩,
      n__law_step := m__law_step.1,
      F__law_step := ⟨_, m__law_step.2, Fun.binds (ps := ["_law_book", "_law_node"]) m__law_step.2 fun _ _ _ _ _ _ us hl => match us, hl with | [_, _], _ => rfl⟩,
      n__law_operation := m__law_operation.1,
      F__law_operation := ⟨_, m__law_operation.2, Fun.binds (ps := ["_law_book", "_law_node"]) m__law_operation.2 fun _ _ _ _ _ _ us hl => match us, hl with | [_, _], _ => rfl⟩,
      n__law_state := m__law_state.1,
      F__law_state := ⟨_, m__law_state.2, Fun.binds (ps := ["_law_book", "_law_gap"]) m__law_state.2 fun _ _ _ _ _ _ us hl => match us, hl with | [_, _], _ => rfl⟩,
      n__law_number := m__law_number.1,
      F__law_number := ⟨_, m__law_number.2, Fun.binds (ps := ["_law_told_here"]) m__law_number.2 fun _ _ _ _ _ _ us hl => match us, hl with | [_], _ => rfl⟩,
      n__law_size := m__law_size.1,
      F__law_size := ⟨_, m__law_size.2, Fun.binds (ps := ["_law_bag_here"]) m__law_size.2 fun _ _ _ _ _ _ us hl => match us, hl with | [_], _ => rfl⟩,
      n__law_lanes := m__law_lanes.1,
      F__law_lanes := ⟨_, m__law_lanes.2, Fun.binds (ps := ["_law_bag_here", "_law_size_here"]) m__law_lanes.2 fun _ _ _ _ _ _ us hl => match us, hl with | [_, _], _ => rfl⟩,
      n__law_nodes := m__law_nodes.1,
      F__law_nodes := ⟨_, m__law_nodes.2, Fun.binds (ps := ["_law_bag_here", "_law_size_here"]) m__law_nodes.2 fun _ _ _ _ _ _ us hl => match us, hl with | [_, _], _ => rfl⟩,
      n__law_log := m__law_log.1,
      F__law_log := ⟨_, m__law_log.2, Fun.binds (ps := ["_law_bag_here", "_law_size_here"]) m__law_log.2 fun _ _ _ _ _ _ us hl => match us, hl with | [_, _], _ => rfl⟩,
      n__law_losses := m__law_losses.1,
      F__law_losses := ⟨_, m__law_losses.2, Fun.binds (ps := ["_law_size_here", "_law_moves"]) m__law_losses.2 fun _ _ _ _ _ _ us hl => match us, hl with | [_, _], _ => rfl⟩,
      n__law_told := m__law_told.1,
      F__law_told := ⟨_, m__law_told.2, Fun.binds (ps := ["_law_asks", "_law_size_here", "_law_moves", "_law_value"]) m__law_told.2 fun _ _ _ _ _ _ us hl => match us, hl with | [_, _, _, _], _ => rfl⟩,
      n__law_fits := m__law_fits.1,
      F__law_fits := ⟨_, m__law_fits.2, Fun.binds (ps := ["_law_told_here", "_law_word", "_law_first", "_law_second"]) m__law_fits.2 fun _ _ _ _ _ _ us hl => match us, hl with | [_, _, _, _], _ => rfl⟩,
      n__law_is_triple := m__law_is_triple.1,
      F__law_is_triple := ⟨_, m__law_is_triple.2, Fun.binds (ps := ["_law_value"]) m__law_is_triple.2 fun _ _ _ _ _ _ us hl => match us, hl with | [_], _ => rfl⟩,
      n__law_certified := m__law_certified.1,
      F__law_certified := ⟨_, m__law_certified.2, Fun.binds (ps := ["_law_size_here", "_law_moves"]) m__law_certified.2 fun _ _ _ _ _ _ us hl => match us, hl with | [_, _], _ => rfl⟩,
      n__law_truth := m__law_truth.1,
      F__law_truth := ⟨_, m__law_truth.2, Fun.binds (ps := ["_law_number_here"]) m__law_truth.2 fun _ _ _ _ _ _ us hl => match us, hl with | [_], _ => rfl⟩,
      n__law_values := m__law_values.1,
      F__law_values := ⟨_, m__law_values.2, Fun.binds (ps := ["_law_triple"]) m__law_values.2 fun _ _ _ _ _ _ us hl => match us, hl with | [_], _ => rfl⟩,
      n__law_judged := m__law_judged.1,
      F__law_judged := ⟨_, m__law_judged.2, Fun.binds (ps := ["_law_size_here", "_law_moves", "_law_losses_here", "_law_value"]) m__law_judged.2 fun _ _ _ _ _ _ us hl => match us, hl with | [_, _, _, _], _ => rfl⟩,
      n__law_pairs := m__law_pairs.1,
      F__law_pairs := ⟨_, m__law_pairs.2, Fun.binds (ps := ["_law_bag_here", "_law_size_here", "_law_moves", "_law_losses_here"]) m__law_pairs.2 fun _ _ _ _ _ _ us hl => match us, hl with | [_, _, _, _], _ => rfl⟩,
      n__law_values_fit := m__law_values_fit.1,
      F__law_values_fit := ⟨_, m__law_values_fit.2, Fun.binds (ps := ["_law_bag_here", "_law_size_here", "_law_moves"]) m__law_values_fit.2 fun _ _ _ _ _ _ us hl => match us, hl with | [_, _, _], _ => rfl⟩,
      n__law_both_refuse := m__law_both_refuse.1,
      F__law_both_refuse := ⟨_, m__law_both_refuse.2, Fun.binds (ps := ["_law_size_here", "_law_moves", "_law_word", "_law_first", "_law_second"]) m__law_both_refuse.2 fun _ _ _ _ _ _ us hl => match us, hl with | [_, _, _, _, _], _ => rfl⟩,
      n__law_refusals := m__law_refusals.1,
      F__law_refusals := ⟨_, m__law_refusals.2, Fun.binds (ps := ["_law_bag_here", "_law_size_here", "_law_moves"]) m__law_refusals.2 fun _ _ _ _ _ _ us hl => match us, hl with | [_, _, _], _ => rfl⟩,
      n_law := m_law.1,
      F_law := ⟨_, m_law.2, Fun.binds (ps := ["_law_script"]) m_law.2 fun _ _ _ _ _ _ us hl => match us, hl with | [_], _ => rfl⟩,
      c_Links := PySem.W.mg_of X G a_Links,
      cl_Links := cl_Links,
      rd_Links := rd_Links,
      mk_Links := ⟨mk1_Links, mk2_Links, mk3_Links, mk4_Links⟩,
      na_Links_size := na_Links_size,
      na_Links__lefts := na_Links__lefts,
      na_Links__rights := na_Links__rights,
      na_Links__flags := na_Links__flags,
      cv_Links_MOST := ⟨_, cv_Links_MOST, ⟨_, rfl⟩⟩,
      F_Links___init__ := ⟨_, mm_Links___init__, Fun.binds (ps := ["self", "size"]) mm_Links___init__ fun _ _ _ _ _ _ us hl => match us, hl with | [_, _], _ => rfl⟩,
      me_Links_left := ⟨me1_Links_left, me2_Links_left, k_Links_left⟩,
      F_Links_left := ⟨_, mm_Links_left, Fun.binds (ps := ["self", "node"]) mm_Links_left fun _ _ _ _ _ _ us hl => match us, hl with | [_, _], _ => rfl⟩,
      me_Links_right := ⟨me1_Links_right, me2_Links_right, k_Links_right⟩,
      F_Links_right := ⟨_, mm_Links_right, Fun.binds (ps := ["self", "node"]) mm_Links_right fun _ _ _ _ _ _ us hl => match us, hl with | [_, _], _ => rfl⟩,
      me_Links_apply_at := ⟨me1_Links_apply_at, me2_Links_apply_at, k_Links_apply_at⟩,
      F_Links_apply_at := ⟨_, mm_Links_apply_at, Fun.binds (ps := ["self", "operation", "index"]) mm_Links_apply_at fun _ _ _ _ _ _ us hl => match us, hl with | [_, _, _], _ => rfl⟩,
      c_LinkError := PySem.W.mg_of X G a_LinkError,
      c_LogError := PySem.W.mg_of X G a_LogError,
      c_BadOperation := PySem.W.mg_of X G a_BadOperation,
      x_BadOperation := x_BadOperation,
      e_BadOperation := e_BadOperation,
      c_Illegal := PySem.W.mg_of X G a_Illegal,
      x_Illegal := x_Illegal,
      e_Illegal := e_Illegal,
      c_BadSize := PySem.W.mg_of X G a_BadSize,
      x_BadSize := x_BadSize,
      e_BadSize := e_BadSize,
      c_BadNode := PySem.W.mg_of X G a_BadNode,
      x_BadNode := x_BadNode,
      e_BadNode := e_BadNode,
      c_BadGap := PySem.W.mg_of X G a_BadGap,
      x_BadGap := x_BadGap,
      e_BadGap := e_BadGap,
      c_BadDump := PySem.W.mg_of X G a_BadDump,
      x_BadDump := x_BadDump,
      e_BadDump := e_BadDump,
      c_NotLost := PySem.W.mg_of X G a_NotLost,
      x_NotLost := x_NotLost,
      e_NotLost := e_NotLost,
      t_BadOperation_LinkError := kit_mk d_LinkError s_BadOperation_BadOperation s_BadOperation_LinkError,
      t_BadOperation_LogError := kit_mk d_LogError s_BadOperation_BadOperation s_BadOperation_LogError,
      t_BadOperation_BadOperation := kit_mk d_BadOperation s_BadOperation_BadOperation s_BadOperation_BadOperation,
      t_BadOperation_Illegal := kit_mk d_Illegal s_BadOperation_BadOperation s_BadOperation_Illegal,
      t_BadOperation_BadSize := kit_mk d_BadSize s_BadOperation_BadOperation s_BadOperation_BadSize,
      t_BadOperation_BadNode := kit_mk d_BadNode s_BadOperation_BadOperation s_BadOperation_BadNode,
      t_BadOperation_BadGap := kit_mk d_BadGap s_BadOperation_BadOperation s_BadOperation_BadGap,
      t_BadOperation_BadDump := kit_mk d_BadDump s_BadOperation_BadOperation s_BadOperation_BadDump,
      t_BadOperation_NotLost := kit_mk d_NotLost s_BadOperation_BadOperation s_BadOperation_NotLost,
      v_BadOperation := kit_val x_BadOperation.vE,
      t_Illegal_LinkError := kit_mk d_LinkError s_Illegal_Illegal s_Illegal_LinkError,
      t_Illegal_LogError := kit_mk d_LogError s_Illegal_Illegal s_Illegal_LogError,
      t_Illegal_BadOperation := kit_mk d_BadOperation s_Illegal_Illegal s_Illegal_BadOperation,
      t_Illegal_Illegal := kit_mk d_Illegal s_Illegal_Illegal s_Illegal_Illegal,
      t_Illegal_BadSize := kit_mk d_BadSize s_Illegal_Illegal s_Illegal_BadSize,
      t_Illegal_BadNode := kit_mk d_BadNode s_Illegal_Illegal s_Illegal_BadNode,
      t_Illegal_BadGap := kit_mk d_BadGap s_Illegal_Illegal s_Illegal_BadGap,
      t_Illegal_BadDump := kit_mk d_BadDump s_Illegal_Illegal s_Illegal_BadDump,
      t_Illegal_NotLost := kit_mk d_NotLost s_Illegal_Illegal s_Illegal_NotLost,
      v_Illegal := kit_val x_Illegal.vE,
      t_BadSize_LinkError := kit_mk d_LinkError s_BadSize_BadSize s_BadSize_LinkError,
      t_BadSize_LogError := kit_mk d_LogError s_BadSize_BadSize s_BadSize_LogError,
      t_BadSize_BadOperation := kit_mk d_BadOperation s_BadSize_BadSize s_BadSize_BadOperation,
      t_BadSize_Illegal := kit_mk d_Illegal s_BadSize_BadSize s_BadSize_Illegal,
      t_BadSize_BadSize := kit_mk d_BadSize s_BadSize_BadSize s_BadSize_BadSize,
      t_BadSize_BadNode := kit_mk d_BadNode s_BadSize_BadSize s_BadSize_BadNode,
      t_BadSize_BadGap := kit_mk d_BadGap s_BadSize_BadSize s_BadSize_BadGap,
      t_BadSize_BadDump := kit_mk d_BadDump s_BadSize_BadSize s_BadSize_BadDump,
      t_BadSize_NotLost := kit_mk d_NotLost s_BadSize_BadSize s_BadSize_NotLost,
      v_BadSize := kit_val x_BadSize.vE,
      t_BadNode_LinkError := kit_mk d_LinkError s_BadNode_BadNode s_BadNode_LinkError,
      t_BadNode_LogError := kit_mk d_LogError s_BadNode_BadNode s_BadNode_LogError,
      t_BadNode_BadOperation := kit_mk d_BadOperation s_BadNode_BadNode s_BadNode_BadOperation,
      t_BadNode_Illegal := kit_mk d_Illegal s_BadNode_BadNode s_BadNode_Illegal,
      t_BadNode_BadSize := kit_mk d_BadSize s_BadNode_BadNode s_BadNode_BadSize,
      t_BadNode_BadNode := kit_mk d_BadNode s_BadNode_BadNode s_BadNode_BadNode,
      t_BadNode_BadGap := kit_mk d_BadGap s_BadNode_BadNode s_BadNode_BadGap,
      t_BadNode_BadDump := kit_mk d_BadDump s_BadNode_BadNode s_BadNode_BadDump,
      t_BadNode_NotLost := kit_mk d_NotLost s_BadNode_BadNode s_BadNode_NotLost,
      v_BadNode := kit_val x_BadNode.vE,
      t_BadGap_LinkError := kit_mk d_LinkError s_BadGap_BadGap s_BadGap_LinkError,
      t_BadGap_LogError := kit_mk d_LogError s_BadGap_BadGap s_BadGap_LogError,
      t_BadGap_BadOperation := kit_mk d_BadOperation s_BadGap_BadGap s_BadGap_BadOperation,
      t_BadGap_Illegal := kit_mk d_Illegal s_BadGap_BadGap s_BadGap_Illegal,
      t_BadGap_BadSize := kit_mk d_BadSize s_BadGap_BadGap s_BadGap_BadSize,
      t_BadGap_BadNode := kit_mk d_BadNode s_BadGap_BadGap s_BadGap_BadNode,
      t_BadGap_BadGap := kit_mk d_BadGap s_BadGap_BadGap s_BadGap_BadGap,
      t_BadGap_BadDump := kit_mk d_BadDump s_BadGap_BadGap s_BadGap_BadDump,
      t_BadGap_NotLost := kit_mk d_NotLost s_BadGap_BadGap s_BadGap_NotLost,
      v_BadGap := kit_val x_BadGap.vE,
      t_BadDump_LinkError := kit_mk d_LinkError s_BadDump_BadDump s_BadDump_LinkError,
      t_BadDump_LogError := kit_mk d_LogError s_BadDump_BadDump s_BadDump_LogError,
      t_BadDump_BadOperation := kit_mk d_BadOperation s_BadDump_BadDump s_BadDump_BadOperation,
      t_BadDump_Illegal := kit_mk d_Illegal s_BadDump_BadDump s_BadDump_Illegal,
      t_BadDump_BadSize := kit_mk d_BadSize s_BadDump_BadDump s_BadDump_BadSize,
      t_BadDump_BadNode := kit_mk d_BadNode s_BadDump_BadDump s_BadDump_BadNode,
      t_BadDump_BadGap := kit_mk d_BadGap s_BadDump_BadDump s_BadDump_BadGap,
      t_BadDump_BadDump := kit_mk d_BadDump s_BadDump_BadDump s_BadDump_BadDump,
      t_BadDump_NotLost := kit_mk d_NotLost s_BadDump_BadDump s_BadDump_NotLost,
      v_BadDump := kit_val x_BadDump.vE,
      t_NotLost_LinkError := kit_mk d_LinkError s_NotLost_NotLost s_NotLost_LinkError,
      t_NotLost_LogError := kit_mk d_LogError s_NotLost_NotLost s_NotLost_LogError,
      t_NotLost_BadOperation := kit_mk d_BadOperation s_NotLost_NotLost s_NotLost_BadOperation,
      t_NotLost_Illegal := kit_mk d_Illegal s_NotLost_NotLost s_NotLost_Illegal,
      t_NotLost_BadSize := kit_mk d_BadSize s_NotLost_NotLost s_NotLost_BadSize,
      t_NotLost_BadNode := kit_mk d_BadNode s_NotLost_NotLost s_NotLost_BadNode,
      t_NotLost_BadGap := kit_mk d_BadGap s_NotLost_NotLost s_NotLost_BadGap,
      t_NotLost_BadDump := kit_mk d_BadDump s_NotLost_NotLost s_NotLost_BadDump,
      t_NotLost_NotLost := kit_mk d_NotLost s_NotLost_NotLost s_NotLost_NotLost,
      v_NotLost := kit_val x_NotLost.vE,
      b_ValueError := PySem.W.mg_none_of X G b_ValueError,
      b_enumerate := PySem.W.mg_none_of X G b_enumerate,
      b_range := PySem.W.mg_none_of X G b_range,
      b_list := PySem.W.mg_none_of X G b_list,
      b_int := PySem.W.mg_none_of X G b_int,
      b_abs := PySem.W.mg_none_of X G b_abs,
      b_len := PySem.W.mg_none_of X G b_len,
      b_isinstance := PySem.W.mg_none_of X G b_isinstance,
      b_all := PySem.W.mg_none_of X G b_all,
      b_str := PySem.W.mg_none_of X G b_str,
      b_bool := PySem.W.mg_none_of X G b_bool,
      b_tuple := PySem.W.mg_none_of X G b_tuple,
      b_super := PySem.W.mg_none_of X G b_super,
      k_MOST_NODES := ⟨_, PySem.W.mg_of X G k_MOST_NODES⟩,
      k_MOST_DIGITS := ⟨_, PySem.W.mg_of X G k_MOST_DIGITS⟩,
      k_PARTS := ⟨_, PySem.W.mg_of X G k_PARTS⟩ }
  refine ⟨PySem.W.fnOf "law" "law" (defArgs s_law) (defBody s_law) (defScope s_law) .none kV_law dc_law pm_law an_law cd_law ct_law, fun s v => .of_eq rfl, fun base _ _ => ?_⟩
  have G__law_bag := ok__law_bag (w := w) (base := base) T
  have G__law_draw := ok__law_draw (w := w) (base := base) T
  have G__law_size := ok__law_size (w := w) (base := base) T G__law_draw
  have G__law_whole := ok__law_whole (w := w) (base := base) T
  have G__law_lanes := ok__law_lanes (w := w) (base := base) T G__law_draw
  have G__law_nodes := ok__law_nodes (w := w) (base := base) T G__law_draw G__law_lanes
  have G__law_operation := ok__law_operation (w := w) (base := base) T
  have G__law_step := ok__law_step (w := w) (base := base) T
  have G__law_log := ok__law_log (w := w) (base := base) T G__law_whole G__law_nodes G__law_operation G__law_step
  have G__law_state := ok__law_state (w := w) (base := base) T
  have G__law_losses := ok__law_losses (w := w) (base := base) T G__law_whole G__law_step G__law_state
  have G_check_gap := ok_check_gap (w := w) (base := base) T
  have G_Links_right := ok_Links_right (w := w) (base := base) T
  have G_left_holds := ok_left_holds (w := w) (base := base) T G_Links_right
  have G_Links_left := ok_Links_left (w := w) (base := base) T
  have G_right_holds := ok_right_holds (w := w) (base := base) T G_Links_left
  have G_gap_state := ok_gap_state (w := w) (base := base) T G_check_gap G_left_holds G_right_holds
  have G_gap_states := ok_gap_states (w := w) (base := base) T G_gap_state
  have G_lost_gaps := ok_lost_gaps (w := w) (base := base) T G_gap_states
  have G_check_size := ok_check_size (w := w) (base := base) T
  have G_Links___init__ := ok_Links___init__ (w := w) (base := base) T G_check_size
  have G_check_operation := ok_check_operation (w := w) (base := base) T
  have G_Links_apply_at := ok_Links_apply_at (w := w) (base := base) T G_check_operation
  have G_replay := ok_replay (w := w) (base := base) T G_Links___init__ G_Links_apply_at
  have G__is_legal := ok__is_legal (w := w) (base := base) T
  have G_check_log := ok_check_log (w := w) (base := base) T G_check_size G_check_operation G__is_legal
  have G_decided_by := ok_decided_by (w := w) (base := base) T G_check_log G_check_gap G_Links___init__ G_gap_state G_Links_apply_at
  have G__certificate := ok__certificate (w := w) (base := base) T G_decided_by
  have G_loss_certificate := ok_loss_certificate (w := w) (base := base) T G_lost_gaps G_replay G__certificate
  have G__is_integer := ok__is_integer (w := w) (base := base) T
  have G_is_loss_certificate := ok_is_loss_certificate (w := w) (base := base) T G_lost_gaps G_replay G__is_integer G__certificate
  have G__law_told := ok__law_told (w := w) (base := base) T G_loss_certificate G_is_loss_certificate
  have G__law_number := ok__law_number (w := w) (base := base) T
  have G__law_fits := ok__law_fits (w := w) (base := base) T G__law_number
  have G__law_is_triple := ok__law_is_triple (w := w) (base := base) T G__law_number
  have G__law_certified := ok__law_certified (w := w) (base := base) T G__law_losses G__law_told G__law_fits G__law_is_triple
  have G__law_truth := ok__law_truth (w := w) (base := base) T
  have G__law_values := ok__law_values (w := w) (base := base) T G__law_truth
  have G__law_judged := ok__law_judged (w := w) (base := base) T G__law_told G__law_is_triple
  have G__law_pairs := ok__law_pairs (w := w) (base := base) T G__law_draw G__law_judged
  have G__law_values_fit := ok__law_values_fit (w := w) (base := base) T G__law_losses G__law_draw G__law_values G__law_judged G__law_pairs
  have G__law_both_refuse := ok__law_both_refuse (w := w) (base := base) T G__law_fits G__law_told
  have G__law_refusals := ok__law_refusals (w := w) (base := base) T G__law_draw G__law_both_refuse
  exact ok_law T m_law.2 G__law_bag G__law_size G__law_log G__law_losses G__law_certified G__law_values_fit G__law_draw G__law_refusals
end Lk
open PySem PySem.W PySem.Calls PyProof.Rows
set_option maxRecDepth 100000 in
set_option maxHeartbeats 0 in
theorem PySem.Challenge.cw_latelink_k21_whole_loss_certificates_holds : PySem.Challenge.rw_latelink_k21_whole_loss_certificates.Holds := by
  w_on; o_law; k_head; (case hw => w_witness2)
  k_fill
  refine L2.walk_of (l := PySem.Challenge.rw_latelink_k21_whole_loss_certificates) (n := 63) (k := 12) (x := "_law_script") (CX := fun w => L2N.CX PySem.Challenge.rw_latelink_k21_whole_loss_certificates.prog w) (sp := fun w => Lk.spL _) rfl (by decide) rfl ⟨rfl, by decide, by decide⟩ (fun w h Y => PySem.W.kIn_of Y) ?F (fun w H a ns hl hO hS => Lk.spL_ok hl hS) Lk.noCX
  case F =>
    intro w mg fa h KX G hmg
    refine' Lk.all_mk KX G hmg ?a_Links ?cl_Links ?rd_Links ?mk1_Links ?mk2_Links ?mk3_Links ?mk4_Links ?na_Links_size ?na_Links__lefts ?na_Links__rights ?na_Links__flags ?cv_Links_MOST ?l_Links___init__ ?c_Links___init__ ?k_Links___init__ ?me1_Links_left ?me2_Links_left ?l_Links_left ?c_Links_left ?k_Links_left ?me1_Links_right ?me2_Links_right ?l_Links_right ?c_Links_right ?k_Links_right ?me1_Links_apply_at ?me2_Links_apply_at ?l_Links_apply_at ?c_Links_apply_at ?k_Links_apply_at ?a_LinkError ?a_LogError ?a_BadOperation ?a_Illegal ?a_BadSize ?a_BadNode ?a_BadGap ?a_BadDump ?a_NotLost ?d_LinkError ?d_LogError ?d_BadOperation ?d_Illegal ?d_BadSize ?d_BadNode ?d_BadGap ?d_BadDump ?d_NotLost ?x_BadOperation ?e_BadOperation ?s_BadOperation_LinkError ?s_BadOperation_LogError ?s_BadOperation_BadOperation ?s_BadOperation_Illegal ?s_BadOperation_BadSize ?s_BadOperation_BadNode ?s_BadOperation_BadGap ?s_BadOperation_BadDump ?s_BadOperation_NotLost ?x_Illegal ?e_Illegal ?s_Illegal_LinkError ?s_Illegal_LogError ?s_Illegal_BadOperation ?s_Illegal_Illegal ?s_Illegal_BadSize ?s_Illegal_BadNode ?s_Illegal_BadGap ?s_Illegal_BadDump ?s_Illegal_NotLost ?x_BadSize ?e_BadSize ?s_BadSize_LinkError ?s_BadSize_LogError ?s_BadSize_BadOperation ?s_BadSize_Illegal ?s_BadSize_BadSize ?s_BadSize_BadNode ?s_BadSize_BadGap ?s_BadSize_BadDump ?s_BadSize_NotLost ?x_BadNode ?e_BadNode ?s_BadNode_LinkError ?s_BadNode_LogError ?s_BadNode_BadOperation ?s_BadNode_Illegal ?s_BadNode_BadSize ?s_BadNode_BadNode ?s_BadNode_BadGap ?s_BadNode_BadDump ?s_BadNode_NotLost ?x_BadGap ?e_BadGap ?s_BadGap_LinkError ?s_BadGap_LogError ?s_BadGap_BadOperation ?s_BadGap_Illegal ?s_BadGap_BadSize ?s_BadGap_BadNode ?s_BadGap_BadGap ?s_BadGap_BadDump ?s_BadGap_NotLost ?x_BadDump ?e_BadDump ?s_BadDump_LinkError ?s_BadDump_LogError ?s_BadDump_BadOperation ?s_BadDump_Illegal ?s_BadDump_BadSize ?s_BadDump_BadNode ?s_BadDump_BadGap ?s_BadDump_BadDump ?s_BadDump_NotLost ?x_NotLost ?e_NotLost ?s_NotLost_LinkError ?s_NotLost_LogError ?s_NotLost_BadOperation ?s_NotLost_Illegal ?s_NotLost_BadSize ?s_NotLost_BadNode ?s_NotLost_BadGap ?s_NotLost_BadDump ?s_NotLost_NotLost ?a_check_size ?l_check_size ?c_check_size ?k_check_size ?a_check_operation ?l_check_operation ?c_check_operation ?k_check_operation ?a_check_log ?l_check_log ?c_check_log ?k_check_log ?a__is_legal ?l__is_legal ?c__is_legal ?k__is_legal ?a_check_gap ?l_check_gap ?c_check_gap ?k_check_gap ?a_left_holds ?l_left_holds ?c_left_holds ?k_left_holds ?a_right_holds ?l_right_holds ?c_right_holds ?k_right_holds ?a_gap_state ?l_gap_state ?c_gap_state ?k_gap_state ?a_gap_states ?l_gap_states ?c_gap_states ?k_gap_states ?a_lost_gaps ?l_lost_gaps ?c_lost_gaps ?k_lost_gaps ?a_replay ?l_replay ?c_replay ?k_replay ?a_decided_by ?l_decided_by ?c_decided_by ?k_decided_by ?a__certificate ?l__certificate ?c__certificate ?k__certificate ?a__is_integer ?l__is_integer ?c__is_integer ?k__is_integer ?a_loss_certificate ?l_loss_certificate ?c_loss_certificate ?k_loss_certificate ?a_is_loss_certificate ?l_is_loss_certificate ?c_is_loss_certificate ?k_is_loss_certificate ?a__law_bag ?l__law_bag ?c__law_bag ?k__law_bag ?a__law_draw ?l__law_draw ?c__law_draw ?k__law_draw ?a__law_whole ?l__law_whole ?c__law_whole ?k__law_whole ?a__law_step ?l__law_step ?c__law_step ?k__law_step ?a__law_operation ?l__law_operation ?c__law_operation ?k__law_operation ?a__law_state ?l__law_state ?c__law_state ?k__law_state ?a__law_number ?l__law_number ?c__law_number ?k__law_number ?a__law_size ?l__law_size ?c__law_size ?k__law_size ?a__law_lanes ?l__law_lanes ?c__law_lanes ?k__law_lanes ?a__law_nodes ?l__law_nodes ?c__law_nodes ?k__law_nodes ?a__law_log ?l__law_log ?c__law_log ?k__law_log ?a__law_losses ?l__law_losses ?c__law_losses ?k__law_losses ?a__law_told ?l__law_told ?c__law_told ?k__law_told ?a__law_fits ?l__law_fits ?c__law_fits ?k__law_fits ?a__law_is_triple ?l__law_is_triple ?c__law_is_triple ?k__law_is_triple ?a__law_certified ?l__law_certified ?c__law_certified ?k__law_certified ?a__law_truth ?l__law_truth ?c__law_truth ?k__law_truth ?a__law_values ?l__law_values ?c__law_values ?k__law_values ?a__law_judged ?l__law_judged ?c__law_judged ?k__law_judged ?a__law_pairs ?l__law_pairs ?c__law_pairs ?k__law_pairs ?a__law_values_fit ?l__law_values_fit ?c__law_values_fit ?k__law_values_fit ?a__law_both_refuse ?l__law_both_refuse ?c__law_both_refuse ?k__law_both_refuse ?a__law_refusals ?l__law_refusals ?c__law_refusals ?k__law_refusals ?a_law ?l_law ?c_law ?k_law ?b_ValueError ?b_enumerate ?b_range ?b_list ?b_int ?b_abs ?b_len ?b_isinstance ?b_all ?b_str ?b_bool ?b_tuple ?b_super ?k_MOST_NODES ?k_MOST_DIGITS ?k_PARTS
    (case a_Links => k_is)
    (case cl_Links => refine ⟨?_, ?_, ?_, ?_⟩ <;> k_is)
    (case rd_Links => refine ⟨?_, ?_⟩ <;> k_is)
    (case mk1_Links => k_is)
    (case mk2_Links => k_is)
    (case mk3_Links => k_is)
    (case mk4_Links => k_is)
    (case na_Links_size => show PySem.W.findIn _ (.ref _) "size" = some none; k_is)
    (case na_Links__lefts => show PySem.W.findIn _ (.ref _) "_lefts" = some none; k_is)
    (case na_Links__rights => show PySem.W.findIn _ (.ref _) "_rights" = some none; k_is)
    (case na_Links__flags => show PySem.W.findIn _ (.ref _) "_flags" = some none; k_is)
    (case cv_Links_MOST => k_is)
    (case l_Links___init__ => k_is)
    (case c_Links___init__ => k_is)
    (case k_Links___init__ => k_is)
    (case me1_Links_left => k_is)
    (case me2_Links_left => k_is)
    (case l_Links_left => k_is)
    (case c_Links_left => k_is)
    (case k_Links_left => k_is)
    (case me1_Links_right => k_is)
    (case me2_Links_right => k_is)
    (case l_Links_right => k_is)
    (case c_Links_right => k_is)
    (case k_Links_right => k_is)
    (case me1_Links_apply_at => k_is)
    (case me2_Links_apply_at => k_is)
    (case l_Links_apply_at => k_is)
    (case c_Links_apply_at => k_is)
    (case k_Links_apply_at => k_is)
    (case a_LinkError => k_is)
    (case a_LogError => k_is)
    (case a_BadOperation => k_is)
    (case a_Illegal => k_is)
    (case a_BadSize => k_is)
    (case a_BadNode => k_is)
    (case a_BadGap => k_is)
    (case a_BadDump => k_is)
    (case a_NotLost => k_is)
    (case d_LinkError => refine ⟨?_, ?_, ?_⟩ <;> k_is)
    (case d_LogError => refine ⟨?_, ?_, ?_⟩ <;> k_is)
    (case d_BadOperation => refine ⟨?_, ?_, ?_⟩ <;> k_is)
    (case d_Illegal => refine ⟨?_, ?_, ?_⟩ <;> k_is)
    (case d_BadSize => refine ⟨?_, ?_, ?_⟩ <;> k_is)
    (case d_BadNode => refine ⟨?_, ?_, ?_⟩ <;> k_is)
    (case d_BadGap => refine ⟨?_, ?_, ?_⟩ <;> k_is)
    (case d_BadDump => refine ⟨?_, ?_, ?_⟩ <;> k_is)
    (case d_NotLost => refine ⟨?_, ?_, ?_⟩ <;> k_is)
    case x_BadOperation =>
      refine' LkX.exc_mk (st := Lk.s_BadOperation___init__) (qual := "BadOperation.__init__") ?p1 ?p2 ?p3 ?p4 ?p5 ?p6 ?p7 ?p8 ?p9 ?q1 ?q2 ?q3 ?q4 ?q5 ?q6 ?q7 ?q8 ?r1 ?r2 ⟨_, _, _, _, _, _, _, _, _, rfl, rfl, (.cons (.cons .nil))⟩ rfl rfl rfl rfl rfl (by decide +kernel) (by decide +kernel) rfl rfl rfl (fun us hl => match us, hl with | [_, _, _], _ => rfl) (by decide +kernel) (by decide +kernel) (by decide)
      (case p1 => k_is)
      (case p2 => k_is)
      (case p3 => k_is)
      (case p4 => k_is)
      (case p5 => k_is)
      (case p6 => k_is)
      (case p7 => k_is)
      (case p8 => k_is)
      (case p9 => k_is)
      (case q1 => k_is)
      (case q2 => k_is)
      (case q3 => k_is)
      (case q4 => k_is)
      (case q5 => k_is)
      (case q6 => kernel_rfl)
      (case q7 => decide +kernel)
      (case q8 => refine Lk.all_in ?_; refine ⟨?_, ?_⟩; (· k_is); refine ⟨?_, ?_⟩; (· k_is); exact trivial)
      (case r1 => rfl)
      (case r2 => kernel_rfl)
    (case e_BadOperation => refine Lk.exc_ef ?_ ?_ ?_ ?_ ?_ ?_ ?_ ?_ <;> k_is)
    (case s_BadOperation_LinkError => k_is)
    (case s_BadOperation_LogError => k_is)
    (case s_BadOperation_BadOperation => k_is)
    (case s_BadOperation_Illegal => k_is)
    (case s_BadOperation_BadSize => k_is)
    (case s_BadOperation_BadNode => k_is)
    (case s_BadOperation_BadGap => k_is)
    (case s_BadOperation_BadDump => k_is)
    (case s_BadOperation_NotLost => k_is)
    case x_Illegal =>
      refine' LkX.exc_mk (st := Lk.s_Illegal___init__) (qual := "Illegal.__init__") ?p1 ?p2 ?p3 ?p4 ?p5 ?p6 ?p7 ?p8 ?p9 ?q1 ?q2 ?q3 ?q4 ?q5 ?q6 ?q7 ?q8 ?r1 ?r2 ⟨_, _, _, _, _, _, _, _, _, rfl, rfl, (.cons (.cons .nil))⟩ rfl rfl rfl rfl rfl (by decide +kernel) (by decide +kernel) rfl rfl rfl (fun us hl => match us, hl with | [_, _, _], _ => rfl) (by decide +kernel) (by decide +kernel) (by decide)
      (case p1 => k_is)
      (case p2 => k_is)
      (case p3 => k_is)
      (case p4 => k_is)
      (case p5 => k_is)
      (case p6 => k_is)
      (case p7 => k_is)
      (case p8 => k_is)
      (case p9 => k_is)
      (case q1 => k_is)
      (case q2 => k_is)
      (case q3 => k_is)
      (case q4 => k_is)
      (case q5 => k_is)
      (case q6 => kernel_rfl)
      (case q7 => decide +kernel)
      (case q8 => refine Lk.all_in ?_; refine ⟨?_, ?_⟩; (· k_is); refine ⟨?_, ?_⟩; (· k_is); exact trivial)
      (case r1 => rfl)
      (case r2 => kernel_rfl)
    (case e_Illegal => refine Lk.exc_ef ?_ ?_ ?_ ?_ ?_ ?_ ?_ ?_ <;> k_is)
    (case s_Illegal_LinkError => k_is)
    (case s_Illegal_LogError => k_is)
    (case s_Illegal_BadOperation => k_is)
    (case s_Illegal_Illegal => k_is)
    (case s_Illegal_BadSize => k_is)
    (case s_Illegal_BadNode => k_is)
    (case s_Illegal_BadGap => k_is)
    (case s_Illegal_BadDump => k_is)
    (case s_Illegal_NotLost => k_is)
    case x_BadSize =>
      refine' LkX.exc_mk (st := Lk.s_BadSize___init__) (qual := "BadSize.__init__") ?p1 ?p2 ?p3 ?p4 ?p5 ?p6 ?p7 ?p8 ?p9 ?q1 ?q2 ?q3 ?q4 ?q5 ?q6 ?q7 ?q8 ?r1 ?r2 ⟨_, _, _, _, _, _, _, _, _, rfl, rfl, (.cons .nil)⟩ rfl rfl rfl rfl rfl (by decide +kernel) (by decide +kernel) rfl rfl rfl (fun us hl => match us, hl with | [_, _], _ => rfl) (by decide +kernel) (by decide +kernel) (by decide)
      (case p1 => k_is)
      (case p2 => k_is)
      (case p3 => k_is)
      (case p4 => k_is)
      (case p5 => k_is)
      (case p6 => k_is)
      (case p7 => k_is)
      (case p8 => k_is)
      (case p9 => k_is)
      (case q1 => k_is)
      (case q2 => k_is)
      (case q3 => k_is)
      (case q4 => k_is)
      (case q5 => k_is)
      (case q6 => kernel_rfl)
      (case q7 => decide +kernel)
      (case q8 => refine Lk.all_in ?_; refine ⟨?_, ?_⟩; (· k_is); exact trivial)
      (case r1 => rfl)
      (case r2 => kernel_rfl)
    (case e_BadSize => refine Lk.exc_ef ?_ ?_ ?_ ?_ ?_ ?_ ?_ ?_ <;> k_is)
    (case s_BadSize_LinkError => k_is)
    (case s_BadSize_LogError => k_is)
    (case s_BadSize_BadOperation => k_is)
    (case s_BadSize_Illegal => k_is)
    (case s_BadSize_BadSize => k_is)
    (case s_BadSize_BadNode => k_is)
    (case s_BadSize_BadGap => k_is)
    (case s_BadSize_BadDump => k_is)
    (case s_BadSize_NotLost => k_is)
    case x_BadNode =>
      refine' LkX.exc_mk (st := Lk.s_BadNode___init__) (qual := "BadNode.__init__") ?p1 ?p2 ?p3 ?p4 ?p5 ?p6 ?p7 ?p8 ?p9 ?q1 ?q2 ?q3 ?q4 ?q5 ?q6 ?q7 ?q8 ?r1 ?r2 ⟨_, _, _, _, _, _, _, _, _, rfl, rfl, (.cons .nil)⟩ rfl rfl rfl rfl rfl (by decide +kernel) (by decide +kernel) rfl rfl rfl (fun us hl => match us, hl with | [_, _], _ => rfl) (by decide +kernel) (by decide +kernel) (by decide)
      (case p1 => k_is)
      (case p2 => k_is)
      (case p3 => k_is)
      (case p4 => k_is)
      (case p5 => k_is)
      (case p6 => k_is)
      (case p7 => k_is)
      (case p8 => k_is)
      (case p9 => k_is)
      (case q1 => k_is)
      (case q2 => k_is)
      (case q3 => k_is)
      (case q4 => k_is)
      (case q5 => k_is)
      (case q6 => kernel_rfl)
      (case q7 => decide +kernel)
      (case q8 => refine Lk.all_in ?_; refine ⟨?_, ?_⟩; (· k_is); exact trivial)
      (case r1 => rfl)
      (case r2 => kernel_rfl)
    (case e_BadNode => refine Lk.exc_ef ?_ ?_ ?_ ?_ ?_ ?_ ?_ ?_ <;> k_is)
    (case s_BadNode_LinkError => k_is)
    (case s_BadNode_LogError => k_is)
    (case s_BadNode_BadOperation => k_is)
    (case s_BadNode_Illegal => k_is)
    (case s_BadNode_BadSize => k_is)
    (case s_BadNode_BadNode => k_is)
    (case s_BadNode_BadGap => k_is)
    (case s_BadNode_BadDump => k_is)
    (case s_BadNode_NotLost => k_is)
    case x_BadGap =>
      refine' LkX.exc_mk (st := Lk.s_BadGap___init__) (qual := "BadGap.__init__") ?p1 ?p2 ?p3 ?p4 ?p5 ?p6 ?p7 ?p8 ?p9 ?q1 ?q2 ?q3 ?q4 ?q5 ?q6 ?q7 ?q8 ?r1 ?r2 ⟨_, _, _, _, _, _, _, _, _, rfl, rfl, (.cons .nil)⟩ rfl rfl rfl rfl rfl (by decide +kernel) (by decide +kernel) rfl rfl rfl (fun us hl => match us, hl with | [_, _], _ => rfl) (by decide +kernel) (by decide +kernel) (by decide)
      (case p1 => k_is)
      (case p2 => k_is)
      (case p3 => k_is)
      (case p4 => k_is)
      (case p5 => k_is)
      (case p6 => k_is)
      (case p7 => k_is)
      (case p8 => k_is)
      (case p9 => k_is)
      (case q1 => k_is)
      (case q2 => k_is)
      (case q3 => k_is)
      (case q4 => k_is)
      (case q5 => k_is)
      (case q6 => kernel_rfl)
      (case q7 => decide +kernel)
      (case q8 => refine Lk.all_in ?_; refine ⟨?_, ?_⟩; (· k_is); exact trivial)
      (case r1 => rfl)
      (case r2 => kernel_rfl)
    (case e_BadGap => refine Lk.exc_ef ?_ ?_ ?_ ?_ ?_ ?_ ?_ ?_ <;> k_is)
    (case s_BadGap_LinkError => k_is)
    (case s_BadGap_LogError => k_is)
    (case s_BadGap_BadOperation => k_is)
    (case s_BadGap_Illegal => k_is)
    (case s_BadGap_BadSize => k_is)
    (case s_BadGap_BadNode => k_is)
    (case s_BadGap_BadGap => k_is)
    (case s_BadGap_BadDump => k_is)
    (case s_BadGap_NotLost => k_is)
    case x_BadDump =>
      refine' LkX.exc_mk (st := Lk.s_BadDump___init__) (qual := "BadDump.__init__") ?p1 ?p2 ?p3 ?p4 ?p5 ?p6 ?p7 ?p8 ?p9 ?q1 ?q2 ?q3 ?q4 ?q5 ?q6 ?q7 ?q8 ?r1 ?r2 ⟨_, _, _, _, _, _, _, _, _, rfl, rfl, (.cons .nil)⟩ rfl rfl rfl rfl rfl (by decide +kernel) (by decide +kernel) rfl rfl rfl (fun us hl => match us, hl with | [_, _], _ => rfl) (by decide +kernel) (by decide +kernel) (by decide)
      (case p1 => k_is)
      (case p2 => k_is)
      (case p3 => k_is)
      (case p4 => k_is)
      (case p5 => k_is)
      (case p6 => k_is)
      (case p7 => k_is)
      (case p8 => k_is)
      (case p9 => k_is)
      (case q1 => k_is)
      (case q2 => k_is)
      (case q3 => k_is)
      (case q4 => k_is)
      (case q5 => k_is)
      (case q6 => kernel_rfl)
      (case q7 => decide +kernel)
      (case q8 => refine Lk.all_in ?_; refine ⟨?_, ?_⟩; (· k_is); exact trivial)
      (case r1 => rfl)
      (case r2 => kernel_rfl)
    (case e_BadDump => refine Lk.exc_ef ?_ ?_ ?_ ?_ ?_ ?_ ?_ ?_ <;> k_is)
    (case s_BadDump_LinkError => k_is)
    (case s_BadDump_LogError => k_is)
    (case s_BadDump_BadOperation => k_is)
    (case s_BadDump_Illegal => k_is)
    (case s_BadDump_BadSize => k_is)
    (case s_BadDump_BadNode => k_is)
    (case s_BadDump_BadGap => k_is)
    (case s_BadDump_BadDump => k_is)
    (case s_BadDump_NotLost => k_is)
    case x_NotLost =>
      refine' LkX.exc_mk (st := Lk.s_NotLost___init__) (qual := "NotLost.__init__") ?p1 ?p2 ?p3 ?p4 ?p5 ?p6 ?p7 ?p8 ?p9 ?q1 ?q2 ?q3 ?q4 ?q5 ?q6 ?q7 ?q8 ?r1 ?r2 ⟨_, _, _, _, _, _, _, _, _, rfl, rfl, (.cons .nil)⟩ rfl rfl rfl rfl rfl (by decide +kernel) (by decide +kernel) rfl rfl rfl (fun us hl => match us, hl with | [_, _], _ => rfl) (by decide +kernel) (by decide +kernel) (by decide)
      (case p1 => k_is)
      (case p2 => k_is)
      (case p3 => k_is)
      (case p4 => k_is)
      (case p5 => k_is)
      (case p6 => k_is)
      (case p7 => k_is)
      (case p8 => k_is)
      (case p9 => k_is)
      (case q1 => k_is)
      (case q2 => k_is)
      (case q3 => k_is)
      (case q4 => k_is)
      (case q5 => k_is)
      (case q6 => kernel_rfl)
      (case q7 => decide +kernel)
      (case q8 => refine Lk.all_in ?_; refine ⟨?_, ?_⟩; (· k_is); exact trivial)
      (case r1 => rfl)
      (case r2 => kernel_rfl)
    (case e_NotLost => refine Lk.exc_ef ?_ ?_ ?_ ?_ ?_ ?_ ?_ ?_ <;> k_is)
    (case s_NotLost_LinkError => k_is)
    (case s_NotLost_LogError => k_is)
    (case s_NotLost_BadOperation => k_is)
    (case s_NotLost_Illegal => k_is)
    (case s_NotLost_BadSize => k_is)
    (case s_NotLost_BadNode => k_is)
    (case s_NotLost_BadGap => k_is)
    (case s_NotLost_BadDump => k_is)
    (case s_NotLost_NotLost => k_is)
    (case a_check_size => k_is)
    (case l_check_size => k_is)
    (case c_check_size => k_is)
    (case k_check_size => k_is)
    (case a_check_operation => k_is)
    (case l_check_operation => k_is)
    (case c_check_operation => k_is)
    (case k_check_operation => k_is)
    (case a_check_log => k_is)
    (case l_check_log => k_is)
    (case c_check_log => k_is)
    (case k_check_log => k_is)
    (case a__is_legal => k_is)
    (case l__is_legal => k_is)
    (case c__is_legal => k_is)
    (case k__is_legal => k_is)
    (case a_check_gap => k_is)
    (case l_check_gap => k_is)
    (case c_check_gap => k_is)
    (case k_check_gap => k_is)
    (case a_left_holds => k_is)
    (case l_left_holds => k_is)
    (case c_left_holds => k_is)
    (case k_left_holds => k_is)
    (case a_right_holds => k_is)
    (case l_right_holds => k_is)
    (case c_right_holds => k_is)
    (case k_right_holds => k_is)
    (case a_gap_state => k_is)
    (case l_gap_state => k_is)
    (case c_gap_state => k_is)
    (case k_gap_state => k_is)
    (case a_gap_states => k_is)
    (case l_gap_states => k_is)
    (case c_gap_states => k_is)
    (case k_gap_states => k_is)
    (case a_lost_gaps => k_is)
    (case l_lost_gaps => k_is)
    (case c_lost_gaps => k_is)
    (case k_lost_gaps => k_is)
    (case a_replay => k_is)
    (case l_replay => k_is)
    (case c_replay => k_is)
    (case k_replay => k_is)
    (case a_decided_by => k_is)
    (case l_decided_by => k_is)
    (case c_decided_by => k_is)
    (case k_decided_by => k_is)
    (case a__certificate => k_is)
    (case l__certificate => k_is)
    (case c__certificate => k_is)
    (case k__certificate => k_is)
    (case a__is_integer => k_is)
    (case l__is_integer => k_is)
    (case c__is_integer => k_is)
    (case k__is_integer => k_is)
    (case a_loss_certificate => k_is)
    (case l_loss_certificate => k_is)
    (case c_loss_certificate => k_is)
    (case k_loss_certificate => k_is)
    (case a_is_loss_certificate => k_is)
    (case l_is_loss_certificate => k_is)
    (case c_is_loss_certificate => k_is)
    (case k_is_loss_certificate => k_is)
    (case a__law_bag => k_is)
    (case l__law_bag => k_is)
    (case c__law_bag => k_is)
    (case k__law_bag => k_is)
    (case a__law_draw => k_is)
    (case l__law_draw => k_is)
    (case c__law_draw => k_is)
    (case k__law_draw => k_is)
    (case a__law_whole => k_is)
    (case l__law_whole => k_is)
    (case c__law_whole => k_is)
    (case k__law_whole => k_is)
    (case a__law_step => k_is)
    (case l__law_step => k_is)
    (case c__law_step => k_is)
    (case k__law_step => k_is)
    (case a__law_operation => k_is)
    (case l__law_operation => k_is)
    (case c__law_operation => k_is)
    (case k__law_operation => k_is)
    (case a__law_state => k_is)
    (case l__law_state => k_is)
    (case c__law_state => k_is)
    (case k__law_state => k_is)
    (case a__law_number => k_is)
    (case l__law_number => k_is)
    (case c__law_number => k_is)
    (case k__law_number => k_is)
    (case a__law_size => k_is)
    (case l__law_size => k_is)
    (case c__law_size => k_is)
    (case k__law_size => k_is)
    (case a__law_lanes => k_is)
    (case l__law_lanes => k_is)
    (case c__law_lanes => k_is)
    (case k__law_lanes => k_is)
    (case a__law_nodes => k_is)
    (case l__law_nodes => k_is)
    (case c__law_nodes => k_is)
    (case k__law_nodes => k_is)
    (case a__law_log => k_is)
    (case l__law_log => k_is)
    (case c__law_log => k_is)
    (case k__law_log => k_is)
    (case a__law_losses => k_is)
    (case l__law_losses => k_is)
    (case c__law_losses => k_is)
    (case k__law_losses => k_is)
    (case a__law_told => k_is)
    (case l__law_told => k_is)
    (case c__law_told => k_is)
    (case k__law_told => k_is)
    (case a__law_fits => k_is)
    (case l__law_fits => k_is)
    (case c__law_fits => k_is)
    (case k__law_fits => k_is)
    (case a__law_is_triple => k_is)
    (case l__law_is_triple => k_is)
    (case c__law_is_triple => k_is)
    (case k__law_is_triple => k_is)
    (case a__law_certified => k_is)
    (case l__law_certified => k_is)
    (case c__law_certified => k_is)
    (case k__law_certified => k_is)
    (case a__law_truth => k_is)
    (case l__law_truth => k_is)
    (case c__law_truth => k_is)
    (case k__law_truth => k_is)
    (case a__law_values => k_is)
    (case l__law_values => k_is)
    (case c__law_values => k_is)
    (case k__law_values => k_is)
    (case a__law_judged => k_is)
    (case l__law_judged => k_is)
    (case c__law_judged => k_is)
    (case k__law_judged => k_is)
    (case a__law_pairs => k_is)
    (case l__law_pairs => k_is)
    (case c__law_pairs => k_is)
    (case k__law_pairs => k_is)
    (case a__law_values_fit => k_is)
    (case l__law_values_fit => k_is)
    (case c__law_values_fit => k_is)
    (case k__law_values_fit => k_is)
    (case a__law_both_refuse => k_is)
    (case l__law_both_refuse => k_is)
    (case c__law_both_refuse => k_is)
    (case k__law_both_refuse => k_is)
    (case a__law_refusals => k_is)
    (case l__law_refusals => k_is)
    (case c__law_refusals => k_is)
    (case k__law_refusals => k_is)
    (case a_law => k_is)
    (case l_law => k_is)
    (case c_law => k_is)
    (case k_law => k_is)
    (case b_ValueError => k_is)
    (case b_enumerate => k_is)
    (case b_range => k_is)
    (case b_list => k_is)
    (case b_int => k_is)
    (case b_abs => k_is)
    (case b_len => k_is)
    (case b_isinstance => k_is)
    (case b_all => k_is)
    (case b_str => k_is)
    (case b_bool => k_is)
    (case b_tuple => k_is)
    (case b_super => k_is)
    (case k_MOST_NODES => k_is)
    (case k_MOST_DIGITS => k_is)
    (case k_PARTS => k_is)
