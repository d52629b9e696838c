import PyProof.Rows.All
import Wide.All
import OpenK.AllK
import Wide.FinOn
import KE.KExcSuper
import HandS.ForMost
import HandS.Exc
import HandS.ExcInit
import HandS.ExcCtx
import HandS.HotCalls
import HandS.ExcInitHot
import HandS.ExcIs
import HandS.More
import HandS.IsInst
import HandS.ExcField
import HandS.CallSlots
import HandS.TryMany
import HandS.Text
import HandS.Zip
import KE.KExcIs
import HandS.ClsMeth
import HandS.StrMore
import HandS.Sort
import HandS.Conv
import HandS.Codes
import HandS.Comp
import HandS.TupLe
import HandS.Dict
import PyProof.TupleIter
import PySem.Challenge.RW_latelink_k23_whole_once_gaps
set_option Elab.async false
set_option linter.all false
set_option maxRecDepth 100000
set_option maxHeartbeats 4000000
/-! own exceptions whose __init__ is: super().__init__('text'); self.f = f, .. -/
namespace LkX
open PySem PySem.W PySem.Calls PyProof.Rows PySem.HandSPX

/-- the stores: self.f = f, for the names in turn -/
inductive Stores : List Str → List Stmt → Prop
  | nil : Stores [] []
  | cons {f : Str} {fs : List Str} {ss : List Stmt} {q1 q2 q3 q4 : Pos} : Stores fs ss → Stores (f :: fs) (.Assign [.Attribute (.Name "self" q1) f q2] (.Name f q3) q4 :: ss)
/-- the whole body -/
def InitBody (fs : List Str) (body : List Stmt) : Prop := ∃ (m : Str) (j : Nat) (p0 p1 p2 p3 p4 p5 : Pos) (ss : List Stmt),
  body = .Expr (.Call (.Attribute (.Call (.Name "super" p0) [] [] p1) "__init__" p2) [.Constant (.str m) j p3] [] p4) p5 :: ss ∧ (p2.endLine == p4.line) = true ∧ Stores fs ss

/-- what the written part says of the class x at C, its __init__ at fI, its fields' names fs -/
structure ExcTxt (prog : Program) (K : Frag) (C fI : Addr) (fs : List Str) : Prop where
  cls : ∃ nm q N bs bm sn sub ab col dd k0 k1 k2 k3 k5, K.lookup C = some (excClassObj nm q C N bs bm true sn sub ab col dd k0 k1 k2 k3 k5 "ValueError.__new__") ∧ refsVE bm = true
  sa : findIn K (.ref C) "__setattr__" = some (some (.builtin "object.__setattr__"))
  noN : ∀ f ∈ fs, findIn K (.ref C) f = some none
  iC : findIn K (.ref C) "__init__" = some (some (.ref fI))
  tI : typeIn K (.ref fI) = some (.type "function")
  kC : keepIn K (.ref C) = true
  exC : subIn K (.ref C) (.type "BaseException") = some true
  tyC : typeIn K (.ref C) = some (.type "type")
  vE : subIn K (.ref C) (.type "ValueError") = some true
  su : ks_superIn K C C "__init__" = some (some (.builtin "ValueError.__init__"))
  op : nsIn K cStatics "thirdparty.any" = some none
  gs : nsIn K mainGlobals "super" = some none
  fn : ∃ (qual : Str) (params : Arguments) (body : List Stmt) (scope : Scope) (oc : Value) (od : Option Addr) (doc pm : Value) (an : Option Addr) (cda : Addr) (ct : Value) (cc : Addr) (osl : Array (Option Value)) (ccl : Value) (cdd : Option Addr) (cvs : Array Value) (ccs : Array (Option Value)) (file : Str) (tf : Tok) (cl : Value) (cld : Option Addr) (csl : Array (Option Value)) (ar : Arg),
    K.lookup fI = some ⟨oc, od, .func (ksFn "__init__" qual params body scope .none .none doc pm an (.ref cda) ct cc), osl⟩ ∧ codeIn K (.ref cda) qual = true ∧
    K.lookup cda = some ⟨ccl, cdd, .fields cvs, ccs⟩ ∧ cvs[2]? = some (.str file tf) ∧ ((prog.main.file : Str) == file) = true ∧
    K.lookup cc = some ⟨cl, cld, .cell (some (.ref C)), csl⟩ ∧ InitBody fs body ∧ (params.posonlyargs ++ params.args).head? = some ar ∧ ar.arg = "self" ∧
    (prog.main.scope.names.lookup ("super" : Str)).isSome = false ∧
    scope.names.lookup ("super" : Str) = some .globalImplicit ∧ scope.names.lookup ("__class__" : Str) = some .free ∧ (∀ x ∈ scope.names, x.2 ≠ .cell) ∧
    (∀ f ∈ ("self" : Str) :: fs, scope.names.lookup f = some .local) ∧ scope.isCoroutine = false ∧ scope.isGenerator = false ∧ scope.kind = .function ∧
    (∀ us : List Value, us.length = (("self" : Str) :: fs).length → bindArgs (ksFn "__init__" qual params body scope .none .none doc pm an (.ref cda) ct cc) ⟨us, []⟩ = pure ((("self" : Str) :: fs).zip us))
  nd : (("self" : Str) :: fs).Nodup
  nb : ∀ f ∈ ("self" : Str) :: fs, (f == ("__debug__" : Str)) = false
  few : fs.length ≤ 100

theorem lookup_zip : ∀ {ns : List Str} {vs : List Value} {i : Nat} {f : Str} {v : Value}, ns.Nodup → ns[i]? = some f → vs[i]? = some v → (ns.zip vs).reverse.lookup f = some v := by
  intro ns
  induction ns with
  | nil => intro vs i f v _ h; simp at h
  | cons n ns ih =>
    intro vs i f v hd hf hv
    cases vs with
    | nil => simp at hv
    | cons u vs =>
      have hd' := List.nodup_cons.mp hd
      rw [List.zip_cons_cons, List.reverse_cons, List.lookup_append]
      cases i with
      | zero =>
        simp at hf hv
        subst hf; subst hv
        have hno : (ns.zip vs).reverse.lookup n = none := by
          cases hq : (ns.zip vs).reverse.lookup n with
          | none => rfl
          | some w =>
            have := PySem.mem_of_lookup hq
            rw [List.mem_reverse] at this
            exact absurd (List.of_mem_zip this).1 hd'.1
        rw [hno]
        simp [List.lookup]
      | succ i =>
        simp at hf hv
        rw [ih hd'.2 hf hv]
        rfl

theorem mcall_plain {o e : Expr} {name : Str} {apos pos : Pos} {env : Env} (h : (apos.endLine == pos.line) = true) (he : starEach [e] env = [(false, eval e env)] := by rfl) :
    eval (.Call (.Attribute o name apos) [e] [] pos) env = (do
      let ov ← attributeBase o name env (eval o env)
      standAt apos.atName
      let (f, first) ← holding [ov] (getMethod ov name (do return (← importBound o env).getD true))
      callWith pos f first (backTo pos (starEach [e] env)) []) := by
  rw [arm_eval_Call, he]
  unfold methodCall methodCallPos calleeOf
  rw [h]
  rfl
theorem quiet_of {env : Env} (h : env.scope.kind = .function) : interactive env = false := by simp [interactive, h]
theorem callWith1 {M : Model} {A : Around} {E : Value → Shared → Prop} {s : Shared} {i : String} {x u : Addr} {pos : Pos} {env : Env} {e : Expr} {rest : List Expr} {Q : Value → Shared → Prop}
    (h : wpAny M A (spliced (backTo pos (starEach (e :: rest) env))) (fun vs s₁ => KxsAt i u x s₁.heap ∧ wpAny M A (call (.ref u) vs) Q E s₁) E s)
    (he : starEach (e :: rest) env = (false, eval e env) :: starEach rest env := by rfl) (hplain : (backTo pos (starEach rest env)).any (·.1) = false := by rfl) :
    wpAny M A (callWith pos (.ref u) [] (backTo pos (starEach (e :: rest) env)) []) Q E s := by
  rw [he] at h ⊢
  refine kxs_callWith (i := i) (x := x) (by show (false || (backTo pos (starEach rest env)).any (·.1)) = false; rw [hplain]; rfl) ?_
  exact evalArgs_plain h
theorem spl1 {M : Model} {A : Around} {E : Value → Shared → Prop} {s : Shared} {pos : Pos} {env : Env} {e : Expr} {Q : List Value → Shared → Prop} (h : wpAny M A (eval e env) (fun v s₁ => Q [v] s₁) E s) (he : starEach [e] env = [(false, eval e env)] := by rfl) :
    wpAny M A (spliced (backTo pos (starEach [e] env))) Q E s := by
  rw [he]
  show wpAny _ _ (spliced ((false, eval e env) :: [])) _ _ s
  exact Calls.spliced_cons (wpAny_mono h (fun v s1 q => Calls.spliced_nil q) fun _ _ z => z)
/-- what __init__ leaves of the exception at x: its dict at dx holds m -/
structure InitEnd (h h' : Heap) (x C : Addr) (fs : List Str) (vs : List Value) : Prop where
  keep : ∀ b o, b ≠ x → h.get? b = some o → h'.get? b = some o
  fin : ∃ (t1 dx : Addr), h'.get? x = some ({ cls := .ref C, dict := some dx, data := .fields #[.ref t1, .none, .none, .none, .bool false, .none] } : Obj) ∧ h.objs.size ≤ dx ∧ dx ≠ x ∧
    ∃ mA, h'.Ns1 dx mA ∧ (∀ (i : Nat) (f : Str) (v : Value), fs[i]? = some f → vs[i]? = some v → mA f = some v) ∧ ∀ f, f ∉ fs → mA f = none

section
variable {prog : Program} {w : World} {A : Around} {E : Value → Shared → Prop} {R : Result → Shared → Prop} {K : Frag} {C fI : Addr} {fs : List Str}

theorem ldE {M : Model} {s : Shared} {env : Env} {m : Str → Option Value} {x : Str} {pos : Pos} {v : Value} {Q : Value → Shared → Prop} (hn : s.heap.Ns env.locals m) (hv : m x = some v) (h : Q v s)
    (hk : env.scope.kind = .function) (hl : env.kindOf x = some .local) (hd : (x == ("__debug__" : Str)) = false) : wpAny M A (eval (.Name x pos) env) Q E s := wpAny_Name (wpAny_loadName_local hk hl hn hv h) hd

/-- further stores: the dict is there -/
theorem stores_old (T : ExcTxt prog K C fI fs) {env : Env} {x t1 dx : Addr} (hk : env.scope.kind = .function) {N : Str → Option Value} (hself : N "self" = some (.ref x)) (hls : env.kindOf "self" = some .local) :
    ∀ (gs : List Str) (ss : List Stmt) (s : Shared) (mA : Str → Option Value) (nl : List Str) {Q : Flow → Shared → Prop}, Stores gs ss → (∀ f ∈ gs, f ∈ fs ∧ env.kindOf f = some .local ∧ ∃ v, N f = some v) → K.In s.heap → s.heap.Ns env.locals N → env.locals ≠ x → env.locals ≠ dx →
    s.heap.get? x = some ({ cls := .ref C, dict := some dx, data := .fields #[.ref t1, .none, .none, .none, .bool false, .none] } : Obj) → s.heap.Ns1 dx mA → Within mA nl → nl.length + gs.length ≤ 1000 → K.lookup dx = none → dx ≠ x → gs.Nodup →
    (∀ h' tk mB, (∀ b o, b ≠ dx → s.heap.get? b = some o → h'.get? b = some o) → h'.Ns1 dx mB → (∀ f ∈ gs, mB f = N f) → (∀ f, f ∉ gs → mB f = mA f) → Q .next { s with heap := h', toks := tk }) →
    wpAny (model prog w) A (execs ss env) Q E s := by
  obtain ⟨nm, q, N0, bs, bm, sn, sub, ab, col, dd, k0, k1, k2, k3, k5, hC, hbm⟩ := T.cls
  have hcl : clsIn K C = some { name := nm, bases := bs, mro := .ref C :: bm, ns := N0, qualname := q, hasDict := true, slotNames := sn, subclasses := sub, abstract := ab, collection := col, hasDel := false } := by unfold clsIn; rw [hC] <;> rfl
  intro gs
  induction gs with
  | nil =>
    intro ss s mA nl Q hS _ _ _ _ _ _ hn _ _ _ _ _ hq
    cases hS
    obtain ⟨hp, g, d, t, os⟩ := s
    exact wpAny_execs_nil (hq hp t mA (fun _ _ _ e => e) hn (fun _ h => absurd h List.not_mem_nil) fun _ _ => rfl)
  | cons f gs ih =>
    intro ss s mA nl Q hS hf hKI hns hLx hLd hx hn hw hz hKd hdx hnd hq
    cases hS with
    | cons hS' =>
      obtain ⟨hfm, hfl, v, hv⟩ := hf f List.mem_cons_self
      obtain ⟨oD, _, _, hoD, _, _⟩ := hn.count hw
      refine wpAny_execs_cons (plainObj_wpAny_Assign_Attribute ?_)
      refine ldE hns hv (ldE hns hself ?_ hk hls (T.nb _ List.mem_cons_self)) hk hfl (T.nb _ (List.mem_cons_of_mem _ hfm))
      obtain ⟨hp, g, d, t, os⟩ := s
      refine set_plain hKI (ox := { cls := .ref C, dict := some dx, data := .fields #[.ref t1, .none, .none, .none, .bool false, .none] }) (od := some oD) ⟨hx, rfl, rfl, hoD⟩ T.sa ?_
      refine PySem.OEX.osa_old hKI hx hn hw (by simp at hz; omega) hcl (show refsVE (.ref C :: bm) = true from hbm) rfl (T.noN f hfm) (fun h' tk' k hn' => ?_)
      have kK : K.In h' := fun a o e => k a o (fun z => by rw [z, hKd] at e; cases e) (hKI a o e)
      have hns' : h'.Ns env.locals N := by
        obtain ⟨o, es, ep, ho, hr⟩ := hns
        exact ⟨o, es, ep, k _ _ hLd ho, hr⟩
      refine ih _ ⟨h', g, d, tk', os⟩ (fun y => if y = f then some v else mA y) (f :: nl) hS' (fun f' hf' => hf f' (List.mem_cons_of_mem _ hf')) kK hns' hLx hLd (k _ _ hdx.symm hx) hn' (Within.cons f v hw) (by simp at hz ⊢; omega) hKd hdx (List.nodup_cons.mp hnd).2 ?_
      intro h2 tk2 mB k2 hnB hB hB'
      refine hq h2 tk2 mB (fun b o hb e => k2 b o hb (k b o hb e)) hnB (fun f' hf' => ?_) fun f' hf' => ?_
      · rcases List.mem_cons.mp hf' with e | hf'
        · subst e
          rw [hB' _ (List.nodup_cons.mp hnd).1, if_pos rfl, hv]
        · exact hB f' hf'
      · rw [hB' f' (fun z => hf' (List.mem_cons_of_mem _ z)), if_neg (fun z => hf' (by rw [z]; exact List.mem_cons_self))]

/-- super().__init__('m') called: the built-in's part -/
theorem call_init {u x t0 : Addr} {rest : List Value} {s : Shared} {Q : Value → Shared → Prop} (T : ExcTxt prog K C fI fs) (X : K.In s.heap) (hu : s.heap.get? u = some (kxs_mw "ValueError.__init__" x)) (hx : s.heap.get? x = some (excO C t0)) (hz : rest.length ≤ sizeLine)
    (hq : ∀ h' t1, (∀ b o, b ≠ x → s.heap.get? b = some o → h'.get? b = some o) → h'.get? x = some (excO C t1) → Q .none { s with heap := h' }) : wpAny (model prog w) A (call (.ref u) rest) Q E s := by
  obtain ⟨nm, q, N0, bs, bm, sn, sub, ab, col, dd, k0, k1, k2, k3, k5, hC, hbm⟩ := T.cls
  obtain ⟨hh, g, d, tk, os⟩ := s
  refine wpAny_call (codeAny_of_tree ?_)
  show wpAny _ A.in1 (callAny (.ref u) ⟨rest, []⟩) _ _ _
  simp only [callAny]
  refine wpAny_bind (wpAny_load hu ?_)
  simp only [kxs_mw, show (Value.type "method-wrapper" == Value.type "method" || Value.type "method-wrapper" == Value.type "builtin_function_or_method" || Value.type "method-wrapper" == Value.type "method-wrapper") = true by decide, if_true]
  refine KFB.if_so (by decide) ?_
  refine wpAny_bind (check_bound_init F.excBase_ValueError.toExcCallFacts (X _ _ hC) hx rfl ?_)
  refine wpAny_bind (wpAny_pure (wpAny_pure ?_))
  refine ⟨plainId_quiet F.excBase_ValueError.init.plain _, codeAny_builtin F.excBase_ValueError.initEntry ?_⟩
  exact exc_init_tree (cls := .ref C) (t0 := t0) (dv := none) (c2 := .none) (c3 := .none) (b4 := .bool false) hx hz fun h' k e' _ => hq h' _ k e'

theorem exc_init (T : ExcTxt prog K C fI fs) {x t0 : Addr} {vs : List Value} {s : Shared} {mg mb : Str → Option Value} (hfs : fs ≠ []) (hlen : vs.length = fs.length) (X : K.In s.heap) (hlim : s.heap.NoLimit) (hg : s.heap.Ns mainGlobals mg) (hb : s.heap.Ns builtinsNs mb) (hbs : mb "super" = some (.type "super")) (hx : s.heap.get? x = some (excO C t0)) (hnx : K.lookup x = none) (hroom : A.depth < recursionLimit)
    (hq : ∀ h' tk, InitEnd s.heap h' x C fs vs → R (.ok (.ret .none)) { s with heap := h', toks := tk }) :
    codeAny (model prog w) A (.call (.ref fI) ⟨.ref x :: vs, []⟩) R s := by
  obtain ⟨qual, params, body, scope, oc, od, doc, pm, an, cda, ct, cc, osl, ccl, cdd, cvs, ccs, file, tf, cl, cld, csl, ar, ho, hcd, hcda, hc2, hfile, hcell, ⟨m, j, p0, p1, p2, p3, p4, p5, ss, rfl, hpl, hS⟩, har, hself, htop, hsu, hcls, hnc, hloc, hco, hgen, hk, hbind⟩ := T.fn
  obtain ⟨nm, q, N0, bs, bm, sn, sub, ab, col, dd, k0, k1, k2, k3, k5, hC, hbm⟩ := T.cls
  have hcl : clsIn K C = some { name := nm, bases := bs, mro := .ref C :: bm, ns := N0, qualname := q, hasDict := true, slotNames := sn, subclasses := sub, abstract := ab, collection := col, hasDel := false } := by unfold clsIn; rw [hC] <;> rfl
  refine ks_codeAny_call_defAt (binds := (("self" : Str) :: fs).zip (.ref x :: vs)) hroom (X _ _ ho) rfl hlim (codeRec_of X hcd) rfl (BindsTo.of_eq (hbind _ (by simp [hlen]))) hnc (fun y hy => hloc _ (List.of_mem_zip (show (y.1, y.2) ∈ _ from hy)).1) (fun h₀ hns hk₀ => ?_) hco hgen hk
  have X0 : K.In h₀ := X.keeps hk₀
  have nself : (((("self" : Str) :: fs).zip (Value.ref x :: vs)).reverse).lookup ("self" : Str) = some (Value.ref x) := lookup_zip (i := 0) T.nd rfl rfl
  have nfld : ∀ (i : Nat) (f : Str) (v : Value), fs[i]? = some f → vs[i]? = some v → (((("self" : Str) :: fs).zip (Value.ref x :: vs)).reverse).lookup f = some v := fun i f v h1 h2 => lookup_zip (i := i + 1) T.nd (by simpa using h1) (by simpa using h2)
  have hx0 := hk₀ _ _ hx
  have hLs : s.heap.objs.size ≠ x := Nat.ne_of_gt (Heap.lt_size hx)
  have xC : x ≠ C := fun z => by rw [z] at hnx; rw [hC] at hnx; cases hnx
  -- super().__init__('m')
  refine ks_wpAt_execs_cons (ks_wpAt_Expr_any (ks_wpAt_MethodCall ?_ (mcall_plain hpl)) (quiet_of hk) rfl)
  refine ks_wpAt_super_base (env := callEnv (ksFn "__init__" qual params _ scope .none .none doc pm an (.ref cda) ct cc) s.heap.objs.size fI) hsu hcls (by decide) rfl (X0 _ _ ho) rfl har rfl (X0 _ _ hcda) rfl hc2 hfile htop ?_
  refine ks_loadName_global hk hsu (loadGlobal_builtin (env := callEnv (ksFn "__init__" qual params _ scope .none .none doc pm an (.ref cda) ct cc) s.heap.objs.size fI) (hg.keeps hk₀) (mg_none_of X hg T.gs) (hb.keeps hk₀) hbs ⟨rfl, ?_⟩)
  refine wpAny_loadName_free hk hcls rfl ⟨_, X0 _ _ hcell, rfl⟩ ?_
  refine wpAny_loadName_local hk (by rw [hself]; exact hloc _ List.mem_cons_self) hns (by rw [hself]; exact nself) ?_
  refine ks_wpAny_isType_cls (X0 _ _ hC) rfl ⟨rfl, ?_⟩
  refine ks_wpAny_call_super (X0 _ _ hC) rfl hx0 rfl (fun c e => by cases e) (looks_mroIn X0 (show mroIn K C (.ref C) = some true from ?_)) (fun h1 e1 k1' => ?_)
  · unfold mroIn
    rw [hcl, Option.bind_some]
    simp
  have X1 : K.In h1 := X0.keeps k1'
  have hx1 := k1' _ _ hx0
  unfold ks_superIn at *
  have hsu' := T.su
  unfold ks_superIn at hsu'
  rw [hcl] at hsu'
  have hI : Looks (model prog w) h1 (isInstance (.ref x) (.type "ValueError")) true := fun A Q E s' k q => wpAny_bind (wpAny_typeOf_ref (k _ _ hx1) (looks_subIn X1 T.vE A Q E s' k q))
  refine kxs_getMethod kxs_ValueError e1 (looks_opaque X1 T.op) (l₀ := .ref C :: bm) (fun A Q E s k q => wpAny_bind ((looks_clsIn X1 hcl) A _ E s k (wpAny_pure q))) rfl X1 hsu' hI xC (by decide) ?_
  have hu : (h1.push (kxs_mw "ValueError.__init__" x)).get? h1.objs.size = some (kxs_mw "ValueError.__init__" x) := Heap.get?_push_at rfl rfl
  have k2' : ∀ b o, h1.get? b = some o → (h1.push (kxs_mw "ValueError.__init__" x)).get? b = some o := fun b o e => Heap.get?_push_of_some _ e
  refine callWith1 (i := "ValueError.__init__") (x := x) ?_
  refine spl1 (Calls.Constant_str ⟨hu, ?_⟩)
  refine call_init T (X1.keeps k2') hu (k2' _ _ hx1) (by rw [sizeLine_eq]; simp) fun h2 t1 k3' hx2 => ?_
  have KX2 : K.In h2 := fun a o e => k3' a o (fun z => by rw [z, hnx] at e; cases e) (k2' _ _ (X1 a o e))
  refine wpAt_of_wpAny ?_
  -- the stores
  cases hS with
  | nil => exact absurd rfl hfs
  | @cons f gs ss' q1 q2 q3 q4 hS' =>
    have hLn : ∀ {b o}, s.heap.get? b = some o → b ≠ x → h2.get? b = some o := fun {b o} e hb => k3' b o hb (k2' _ _ (k1' _ _ (hk₀ _ _ e)))
    have hns2 : h2.Ns s.heap.objs.size (fun y => ((("self" : Str) :: (f :: gs)).zip (.ref x :: vs)).reverse.lookup y) := by
      obtain ⟨o, es, ep, hoo, hr⟩ := hns
      exact ⟨o, es, ep, k3' _ _ hLs (k2' _ _ (k1' _ _ hoo)), hr⟩
    obtain ⟨v, vs', rfl⟩ : ∃ v vs', vs = v :: vs' := by
      cases vs with
      | nil => simp at hlen
      | cons v vs' => exact ⟨v, vs', rfl⟩
    refine wpAny_execs_cons (plainObj_wpAny_Assign_Attribute ?_)
    refine ldE (env := callEnv (ksFn "__init__" qual params _ scope .none .none doc pm an (.ref cda) ct cc) s.heap.objs.size fI) hns2 (nfld 0 f v rfl rfl) (ldE (env := callEnv (ksFn "__init__" qual params _ scope .none .none doc pm an (.ref cda) ct cc) s.heap.objs.size fI) hns2 nself ?_ hk (hloc _ List.mem_cons_self) (T.nb _ List.mem_cons_self)) hk (hloc _ (by simp)) (T.nb _ (by simp))
    refine set_plain KX2 (ox := excO C t1) (od := none) ⟨hx2, rfl, rfl, trivial⟩ T.sa ?_
    refine exc_osa KX2 hx2 hcl (show refsVE (.ref C :: bm) = true from hbm) rfl (T.noN f (by simp)) (fun h3 tk3 dx k4' dn dne hx3 hn3 => ?_)
    have sz : ∀ {b o}, h2.get? b = some o → b ≠ dx := fun {b o} e => Nat.ne_of_lt (Nat.lt_of_lt_of_le (Heap.lt_size e) dn)
    have hKd : K.lookup dx = none := by
      cases e : K.lookup dx with
      | none => rfl
      | some o => exact absurd rfl (sz (KX2 _ _ e))
    have KX3 : K.In h3 := fun a o e => k4' a o (fun z => by rw [z, hnx] at e; cases e) (KX2 a o e)
    have hL2 : ∃ o, h2.get? s.heap.objs.size = some o := by
      obtain ⟨o, es, ep, hoo, hr⟩ := hns2
      exact ⟨o, hoo⟩
    obtain ⟨oL, hoL⟩ := hL2
    have hns3 : h3.Ns s.heap.objs.size (fun y => ((("self" : Str) :: (f :: gs)).zip (.ref x :: (v :: vs'))).reverse.lookup y) := by
      obtain ⟨o, es, ep, hoo, hr⟩ := hns2
      exact ⟨o, es, ep, k4' _ _ hLs hoo, hr⟩
    have nd2 := (List.nodup_cons.mp (List.nodup_cons.mp T.nd).2)
    refine stores_old T (env := callEnv (ksFn "__init__" qual params _ scope .none .none doc pm an (.ref cda) ct cc) s.heap.objs.size fI) hk nself (hloc _ List.mem_cons_self) gs ss' _ _ [f] hS' (fun f' hf' => ⟨List.mem_cons_of_mem _ hf', hloc _ (by simp [hf']), ?_⟩) KX3 hns3 hLs (sz hoL) hx3 hn3 (fun y hy => ?_) ?_ hKd dne nd2.2 ?_
    · obtain ⟨i, hi⟩ := List.getElem?_of_mem hf'
      have hi2 : i < vs'.length := by
        have := (List.getElem?_eq_some_iff.mp hi).1
        simp at hlen
        omega
      exact ⟨vs'[i], nfld (i + 1) f' _ (by simpa using hi) (by simp [hi2])⟩
    · by_cases hyf : y = f
      · simp [hyf]
      · simp [hyf] at hy
    · have := T.few
      simp at this ⊢
      omega
    · intro h4 tk4 mB k5' hnB hB hB'
      refine hq h4 tk4 ⟨fun b o hb e => k5' b o (fun z => ?_) (k4' b o hb (hLn e hb)), t1, dx, k5' _ _ dne.symm hx3, ?_, dne, mB, hnB, fun i f' u h1 h2' => ?_, fun f' hf' => ?_⟩
      · exact sz (hLn e hb) z
      · have l1 : s.heap.objs.size < h2.objs.size := Heap.lt_size hoL
        exact Nat.le_of_lt (Nat.lt_of_lt_of_le l1 dn)
      · cases i with
        | zero =>
          simp at h1 h2'
          subst h1; subst h2'
          rw [hB' _ nd2.1, if_pos rfl]
        | succ i =>
          have hm : f' ∈ gs := List.mem_of_getElem? (by simpa using h1)
          rw [hB f' hm]
          exact nfld (i + 1) f' u h1 h2'
      · rw [hB' f' (fun z => hf' (List.mem_cons_of_mem _ z)), if_neg (fun z => hf' (by rw [z]; exact List.mem_cons_self))]
/-- a made exception -/
structure OwnMade (h h' : Heap) (e C d : Addr) (fs : List Str) (vs : List Value) : Prop where
  keep : ∀ b o, h.get? b = some o → h'.get? b = some o
  new : h.objs.size ≤ e
  obj : ∃ t1 : Addr, h'.get? e = some ({ cls := .ref C, dict := some d, data := .fields #[.ref t1, .none, .none, .none, .bool false, .none] } : Obj)
  dbig : h.objs.size ≤ d
  dne : d ≠ e
  ns : ∃ mA, h'.Ns1 d mA ∧ (∀ (i : Nat) (f : Str) (v : Value), fs[i]? = some f → vs[i]? = some v → mA f = some v) ∧ ∀ f, f ∉ fs → mA f = none
theorem exc_made (T : ExcTxt prog K C fI fs) {vs : List Value} {s : Shared} {mg mb : Str → Option Value} (hfs : fs ≠ []) (hlen : vs.length = fs.length) (X : K.In s.heap) (hlim : s.heap.NoLimit) (hg : s.heap.Ns mainGlobals mg) (hb : s.heap.Ns builtinsNs mb) (hbs : mb "super" = some (.type "super")) (hroom : A.depth + 1 < recursionLimit)
    (hq : ∀ h' tk e d, OwnMade s.heap h' e C d fs vs → R (.ok (.ret (.ref e))) { s with heap := h', toks := tk }) :
    codeAny (model prog w) A (.call (.ref C) ⟨vs, []⟩) R s := by
  obtain ⟨nm, q, N, bs, bm, sn, sub, ab, col, dd, k0, k1, k2, k3, k5, hC, hbm⟩ := T.cls
  obtain ⟨hp, g, dr, tk, os⟩ := s
  have k : ∀ b o, hp.get? b = some o → ((hp.push (kdv_tup vs)).push (excO C hp.objs.size)).get? b = some o := fun b o e => Heap.get?_push_of_some _ (Heap.get?_push_of_some _ e)
  have hget : ((hp.push (kdv_tup vs)).push (excO C hp.objs.size)).get? (hp.objs.size + 1) = some (excO C hp.objs.size) := by heap_get
  have hnx : K.lookup (hp.objs.size + 1) = none := by
    cases e : K.lookup (hp.objs.size + 1) with
    | none => rfl
    | some o =>
      have z : hp.get? (hp.objs.size + 1) = some o := X _ _ e
      exact absurd (Nat.lt_of_succ_lt (Heap.lt_size z)) (Nat.lt_irrefl _)
  have hsz : vs.length ≤ sizeLine := by
    have := T.few
    rw [hlen, sizeLine_eq]
    omega
  refine call_own F.excBase_ValueError (fun X => refsVE_contains X bm hbm) (X _ _ hC) (looks_findIn X T.iC) (fun self => bind_fn X self T.tI) hsz ?_
  refine exc_init (s := ⟨(hp.push (kdv_tup vs)).push (excO C hp.objs.size), g, dr, tk, os⟩) T hfs hlen (X.keeps k) (hlim.keeps k) (hg.keeps k) (hb.keeps k) hbs hget hnx ?_ fun h' tk' IE => ?_
  · show A.depth + 1 < recursionLimit
    exact hroom
  · obtain ⟨k', t1, dx, hx, dn, dne, mA, hn, hv⟩ := IE
    have old : ∀ b o, hp.get? b = some o → h'.get? b = some o := fun b o e => k' b o (Nat.ne_of_lt (Nat.lt_succ_of_lt (Heap.lt_size e))) (k b o e)
    have z : hp.objs.size + 1 + 1 ≤ dx := by
      first
        | (simpa only [Heap.size_push] using dn)
        | exact dn
        | (have q := dn; rw [Heap.size_push, Heap.size_push] at q; exact q)
    exact ⟨rfl, hq h' tk' (hp.objs.size + 1) dx ⟨old, Nat.le_succ _, ⟨t1, hx⟩, Nat.le_trans (Nat.le_trans (Nat.le_succ _) (Nat.le_succ _)) z, dne, mA, hn, hv⟩⟩
end
end LkX

namespace Lk
open PySem PySem.Spec PyProof.Rows L2
abbrev St := L2.St

/-! ### raise C(e, ..) -/
/-- C(e, ..): the new exception's own dict at d -/
def tMkX (C : Addr) (fs : List Str) (ta : TA) : St → Hp → XK → Prop := fun σ H Q => ta σ H fun vs H1 => vs.length = fs.length ∧ ∀ d, H1 d = none → Q (.ref C) (some d) (upd H1 d (.xd (fs.zip vs)))
theorem zip_rel : ∀ {fs : List Str} {vs : List V} {us : List Value} {mA : Str → Option Value}, Vals vs us → vs.length = fs.length → (∀ (i : Nat) (f : Str) (v : Value), fs[i]? = some f → us[i]? = some v → mA f = some v) → (∀ f, f ∉ fs → mA f = none) → fs.Nodup → ∀ f, RelO ((fs.zip vs).lookup f) (mA f) := by
  intro fs
  induction fs with
  | nil =>
    intro vs us mA r hl h hn hd f
    rw [hn f List.not_mem_nil]
    exact True.intro
  | cons g fs ih =>
    intro vs us mA r hl h hn hd f
    cases r with
    | nil => simp at hl
    | @cons x u vs us rx rr =>
      rw [List.zip_cons_cons, lookup_put]
      by_cases hfg : f = g
      · rw [if_pos hfg, hfg, h 0 g u rfl rfl]
        exact rx
      · rw [if_neg hfg]
        have q := ih (mA := fun y => if y = g then none else mA y) rr (by simpa using hl) (fun i f' v' h1 h2 => by
            rw [if_neg (fun z => (List.nodup_cons.mp hd).1 (by rw [← z]; exact List.mem_of_getElem? h1))]
            exact h (i + 1) f' v' (by simpa using h1) (by simpa using h2)) (fun f' hf' => by
            by_cases z : f' = g
            · rw [if_pos z]
            · rw [if_neg z]
              exact hn f' (fun y => by rcases List.mem_cons.mp y with y | y; exact z y; exact hf' y)) (List.nodup_cons.mp hd).2 f
        rw [if_neg hfg] at q
        exact q
section
variable {X : Cx} {C fI : Addr} {fs : List Str} {e : Expr} {es : List Expr} {ta : TA} {x : Str} {p pos : Pos} {k : Nat}
theorem made_at {pins : List (Addr × Obj)} {σ : St} {H1 : Hp} {s1 : Shared} {us : List Value} {vs : List V} {Q : XK} {A : Around} {E : Value → Shared → Prop} (T : LkX.ExcTxt X.prog X.K C fI fs) (I1 : Inv X pins σ H1 s1) (r1 : Vals vs us) (hlen : vs.length = fs.length) (hfs : fs ≠ []) (hroom : A.depth + 1 < recursionLimit)
    (q : ∀ d, H1 d = none → Q (.ref C) (some d) (upd H1 d (.xd (fs.zip vs)))) : wpAny (model X.prog X.w) A (call (.ref C) us) (L2N.MkP X pins σ Q) E s1 := by
  obtain ⟨mb, hb1, hb2⟩ := I1.mod.blt
  have hul : us.length = fs.length := by rw [← r1.length]; exact hlen
  refine wpAny_call (LkX.exc_made T hfs hul I1.kIn I1.nolimit (I1.mod.glob.keeps I1.bk) (hb1.keeps I1.bk) ((hb2 "super" (by decide)).trans (by decide +kernel)) hroom fun h' tk' e d M => ?_)
  obtain ⟨hp, g, dr, tk, os⟩ := s1
  show L2N.MkP X pins σ Q (.ref e) ⟨h', g, dr, tk', os⟩
  obtain ⟨t1, hoe⟩ := M.obj
  obtain ⟨mA, hns, hv, hno⟩ := M.ns
  obtain ⟨G', g1, g2⟩ := restrict h' fun b => decide (b ≠ e)
  have gk : ∀ b, b ≠ e → G'.get? b = h'.get? b := fun b hb => g1 b (decide_eq_true hb)
  have ge : G'.get? e = none := g2 e (by simp)
  have old : ∀ b o, hp.get? b = some o → G'.get? b = some o := fun b o q => (gk b (Nat.ne_of_lt (Nat.lt_of_lt_of_le (Heap.lt_size q) M.new))).trans (M.keep b o q)
  have ob : ObjOk X.prog X.w (upd H1 d (.xd (fs.zip vs))) G' d (.xd (fs.zip vs)) :=
    ⟨_, hns.at (fun o q => (gk d M.dne).trans q), zip_rel r1 hlen hv hno (List.nodup_cons.mp T.nd).2⟩
  have J : Inv X pins σ (upd H1 d (.xd (fs.zip vs))) ⟨G', g, dr, tk', os⟩ := I1.laid (t' := tk') old M.dbig ob
  refine ⟨e, _, _, ⟨G', g, dr, tk', os⟩, _, .ref C, some d, rfl, J, fun b o q => ?_, ge, hoe, ⟨rfl, rfl, fun vs hvs => ?_⟩, rfl, rfl, ?_, rfl, I1.bare, raises_own T.exC T.tyC, q d (I1.hok.fresh M.dbig)⟩
  · by_cases hb : b = e
    · have q' : G'.get? b = some o := q
      rw [hb, ge] at q'; cases q'
    · exact (gk b hb).symm.trans q
  · cases hvs
    rfl
  · rw [upd_ne (Ne.symm M.dne)]
    exact I1.hok.fresh M.new
theorem pmk_own (T : LkX.ExcTxt X.prog X.K C fI fs) (hfs : fs ≠ []) (hr : Room k X.A) (hm : X.mg x = some (.ref C)) (ha : PA X (e :: es) ta) (hg : Gl X x) (hdb : (x == ("__debug__" : Str)) = false := by decide)
    (he : starEach (e :: es) X.env = (false, eval e X.env) :: starEach es X.env := by rfl) (hpl : (backTo pos (starEach es X.env)).any (·.1) = false := by rfl) :
    L2N.PMk X (.Call (.Name x p) (e :: es) [] pos) (tMkX C fs ta) := by
  intro pins s σ H Q I h
  refine wpAny_Call_Name_kw (ld_glob I hg hm ?_ hdb)
  refine PySem.W.callWith_K (h₀ := X.base) I.ok.mod.kin T.kC (thn (ha.run pos pins s σ H _ I h) fun us s1 ⟨vs, H1, I1, r1, hl, q1⟩ => ⟨I1.kIn, ?_⟩) he hpl
  exact made_at T I1 r1 hl hfs (by have := hr.dp; omega) q1
end
end Lk
namespace Lk
open PySem PySem.Spec PyProof.Rows L2

/-! ### defs as they are called -/
/-- the def at f keeps sp, by some code -/
def FnA (P : Program) (w : World) (K : PySem.W.Frag) (mg : Str → Option Value) (base : Heap) (k : Nat) (f : Addr) (ps : List Str) (sp : Sp) : Prop :=
  ∃ fd, FnOk P w K mg base (L2N.CX P w) k f fd ps sp ∧ Binds K fd ps []
def FnHA (P : Program) (w : World) (K : PySem.W.Frag) (mg : Str → Option Value) (base : Heap) (k : Nat) (f : Addr) (ps : List Str) (sp : Sp) : Prop :=
  ∃ fd, L2H.FnH P w K mg base (L2N.CX P w) k f fd ps sp ∧ Binds K fd ps []
/-- the module's name x holds the def at f -/
structure Nm (K : PySem.W.Frag) (mg : Str → Option Value) (x : Str) (f : Addr) : Prop where
  m : mg x = some (.ref f)
  k : PySem.W.keepIn K (.ref f) = true
theorem takes0 {X : Cx} : L2N.Takes X (fun _ _ _ _ => False) := fun _ _ x => by
  obtain ⟨_, _, _, _, _, _, _, _, _, _, _, _, _, _, _, _, z⟩ := x
  exact z.elim
section
variable {X : Cx} {k : Nat} {f : Addr} {ps : List Str} {sp : Sp} {W : WX} {x : Str} {p pos : Pos} {e : Expr} {es : List Expr} {t : TA}
theorem pe_callA (G : FnA X.prog X.w X.K X.mg X.base k f ps sp) (hr : Room k X.A) (hm : Nm X.K X.mg x f) (tk : L2N.Takes X W)
    (ha : PA X (e :: es) t) (hg : Gl X x := by rfl) (hdb : (x == ("__debug__" : Str)) = false := by decide) (he : starEach (e :: es) X.env = (false, eval e X.env) :: starEach es X.env := by rfl) (hpl : (backTo pos (starEach es X.env)).any (·.1) = false := by rfl) :
    PE X (.Call (.Name x p) (e :: es) [] pos) (tCallS sp (WE W) t) := by
  obtain ⟨fd, F, b⟩ := G
  exact pe_callS F hr hg hm.m hm.k b (fun σ => L2N.passAt tk σ) ha hdb he hpl
theorem pe_callHA (G : FnHA X.prog X.w X.K X.mg X.base k f ps sp) (hr : L2H.RoomH k X.A) (hc : L2H.HotC X) (hm : Nm X.K X.mg x f)
    (ha : PA X (e :: es) t) (hg : Gl X x := by rfl) (hdb : (x == ("__debug__" : Str)) = false := by decide) (he : starEach (e :: es) X.env = (false, eval e X.env) :: starEach es X.env := by rfl) (hpl : (backTo pos (starEach es X.env)).any (·.1) = false := by rfl) :
    PE X (.Call (.Name x p) (e :: es) [] pos) (tCallS sp (fun _ => E0) t) := by
  obtain ⟨fd, F, b⟩ := G
  exact L2H.pe_callH F hr hc hg hm.m hm.k b (fun σ => L2N.passAt takes0 σ) ha hdb he hpl
end
section
variable {P : Program} {w : World} {K : PySem.W.Frag} {mg : Str → Option Value} {base : Heap}
/-- a def's body, raising or not -/
theorem FnA.of {x qual : Str} {st : Stmt} {f : Addr} {fd : FuncData} {N ps : List Str} {k : Nat} {sp : Sp} (F : Fun K x qual st f fd) (S : FnScope N ps (defScope st)) (b : Binds K fd ps []) (len : ∀ vs H Q E, sp vs H Q E → vs.length = ps.length)
    (hbody : ∀ (cdv : Value) (A : Around) (outer : List Env) (s : Shared) (H : Hp) (vs : List V) (Q : VK) (E : XK), Room k (A.deeper (envOfC qual (defScope st) s.heap.objs.size f cdv)) → L2N.Takes (cxOf (L2N.CX P w) P w K mg base N qual (defScope st) f cdv A outer s H E) (fun cls d _ H' => E cls d H') →
      PassesOwn (model P w) (cxOf (L2N.CX P w) P w K mg base N qual (defScope st) f cdv A outer s H E).A (cxOf (L2N.CX P w) P w K mg base N qual (defScope st) f cdv A outer s H E).env (cxOf (L2N.CX P w) P w K mg base N qual (defScope st) f cdv A outer s H E).xe → sp vs H Q E →
      ∃ t, PSs (cxOf (L2N.CX P w) P w K mg base N qual (defScope st) f cdv A outer s H E) (defBody st) t ∧ t { nx := fun _ H' => Q .non H', rt := Q } (start N vs) H) : FnA P w K mg base (k + 1) f ps sp := by
  obtain ⟨oc, od, kV, doc, pm, an, cdv, ct, osl, rfl, lk, hcd⟩ := F.ex
  exact ⟨_, fn_of lk hcd S len fun A outer s H vs Q E hr hsp => hbody cdv A outer s H vs Q E hr (L2N.takes_of rfl rfl rfl rfl) (passes_of rfl) hsp, b⟩
theorem FnHA.of {x qual : Str} {st : Stmt} {f : Addr} {fd : FuncData} {N ps : List Str} {k : Nat} {sp : Sp} (F : Fun K x qual st f fd) (S : FnScope N ps (defScope st)) (b : Binds K fd ps []) (len : ∀ vs H Q E, sp vs H Q E → vs.length = ps.length)
    (hbody : ∀ (cdv : Value) (A : Around) (outer : List Env) (s : Shared) (H : Hp) (vs : List V) (Q : VK) (E : XK) (p : Addr × Obj), L2H.Hot1 A p → L2H.RoomH k (A.deeper (envOfC qual (defScope st) s.heap.objs.size f cdv)) → L2H.HotC (L2H.cxH (L2N.CX P w) P w K mg base N qual (defScope st) f cdv A outer s H E p) →
      PassesOwn (model P w) (L2H.cxH (L2N.CX P w) P w K mg base N qual (defScope st) f cdv A outer s H E p).A (L2H.cxH (L2N.CX P w) P w K mg base N qual (defScope st) f cdv A outer s H E p).env (L2H.cxH (L2N.CX P w) P w K mg base N qual (defScope st) f cdv A outer s H E p).xe → sp vs H Q E →
      ∃ t, PSs (L2H.cxH (L2N.CX P w) P w K mg base N qual (defScope st) f cdv A outer s H E p) (defBody st) t ∧ t { nx := fun _ H' => Q .non H', rt := Q } (start N vs) H) : FnHA P w K mg base (k + 1) f ps sp := by
  obtain ⟨oc, od, kV, doc, pm, an, cdv, ct, osl, rfl, lk, hcd⟩ := F.ex
  exact ⟨_, L2H.fn_ofH lk hcd S len fun A outer s H vs Q E p hot hr hsp => hbody cdv A outer s H vs Q E p hot hr ⟨p, ⟨hot.1, hot.2⟩, List.mem_cons_self⟩ (passes_of rfl) hsp, b⟩
end

/-! ### heaps -/
/-- all that was tracked stands, but for ms -/
def Kp (ms : List Addr) (H H' : Hp) : Prop := ∀ a o, H a = some o → a ∉ ms → H' a = some o
theorem Kp.refl {ms : List Addr} {H : Hp} : Kp ms H H := fun _ _ h _ => h
theorem Kp.at {ms : List Addr} {H H' : Hp} {a : Addr} {o : HO} (k : Kp ms H H') (h : H a = some o) (n : a ∉ ms) : H' a = some o := k a o h n
theorem Kp.at0 {H H' : Hp} {a : Addr} {o : HO} (k : Kp [] H H') (h : H a = some o) : H' a = some o := k a o h List.not_mem_nil
theorem Kp.trans {ms : List Addr} {H H1 H2 : Hp} (a : Kp ms H H1) (b : Kp ms H1 H2) : Kp ms H H2 := fun c o h n => b c o (a c o h n) n
theorem Kp.trans0 {ms : List Addr} {H H1 H2 : Hp} (a : Kp ms H H1) (b : Kp [] H1 H2) : Kp ms H H2 := fun c o h n => b c o (a c o h n) List.not_mem_nil
theorem Kp.mono {ms ns : List Addr} {H H1 : Hp} (a : Kp ms H H1) (h : ∀ x ∈ ms, x ∈ ns) : Kp ns H H1 := fun c o e n => a c o e (fun z => n (h c z))
theorem Kp.new {ms : List Addr} {H H1 : Hp} {p : Addr} {o : HO} (k : Kp ms H H1) (h : H1 p = none) : Kp ms H (upd H1 p o) := fun a u e n => by
  rw [upd_ne (ne_of_none (k a u e n) h)]
  exact k a u e n
theorem Kp.mut {ms : List Addr} {H H1 : Hp} {p : Addr} {o : HO} (k : Kp ms H H1) (h : p ∈ ms) : Kp ms H (upd H1 p o) := fun a u e n => by
  rw [upd_ne (fun z => n (by rw [z]; exact h))]
  exact k a u e n
/-- an object that was not there at the beginning is changed -/
theorem Kp.own {ms : List Addr} {H H1 : Hp} {p : Addr} {o : HO} (k : Kp ms H H1) (h : H p = none) : Kp ms H (upd H1 p o) := fun a u e n => by
  rw [upd_ne (ne_of_none e h)]
  exact k a u e n
theorem Kp.free {H H' : Hp} {a : Addr} (k : Kp [] H H') (h : H' a = none) : H a = none := by
  cases q : H a with
  | none => rfl
  | some o => rw [k a o q List.not_mem_nil] at h; cases h
theorem Kp.freeM {ms : List Addr} {H H' : Hp} {a : Addr} (k : Kp ms H H') (h : H' a = none) (hm : ∀ b ∈ ms, ∃ o, H' b = some o) : H a = none := by
  cases q : H a with
  | none => rfl
  | some o =>
    by_cases z : a ∈ ms
    · obtain ⟨o', e⟩ := hm a z
      rw [h] at e; cases e
    · rw [k a o q z] at h; cases h
theorem upd_get {H : Hp} {p a : Addr} {o u : HO} (n : a ≠ p) (h : H a = some u) : upd H p o a = some u := by rw [upd_ne n]; exact h
theorem upd_nil {H : Hp} {p a : Addr} {o : HO} (h : upd H p o a = none) : H a = none := by
  unfold upd at h
  split at h
  · cases h
  · exact h
theorem upd_nel {H : Hp} {p a : Addr} {o : HO} (h : upd H p o a = none) : a ≠ p := fun z => by
  rw [z, upd_same] at h; cases h

/-! ### lists under a map -/
theorem map_getD {α : Type} [Inhabited α] {f : α → V} {xs : List α} {i : Nat} (h : i < xs.length) : (xs.map f)[i]? = some (f (xs.getD i default)) := by
  rw [List.getElem?_map, List.getElem?_eq_getElem h]
  simp [List.getD, List.getElem?_eq_getElem h]
theorem getD_some {α : Type} [Inhabited α] {xs : List α} {i : Nat} (h : i < xs.length) : xs[i]? = some (xs.getD i default) := by
  rw [List.getElem?_eq_getElem h]
  simp [List.getD, List.getElem?_eq_getElem h]
theorem atI_pos {α : Type} {xs : List α} {i : Int} {v : α} (h0 : 0 ≤ i) (h : xs[i.toNat]? = some v) : atI xs i = some v := by
  have e : i = ((i.toNat : Nat) : Int) := by omega
  rw [e]
  exact atI_nat (by simpa using h)
theorem ixN_pos {n : Nat} {i : Int} (h0 : 0 ≤ i) (h : i.toNat < n) : ixN n i = some i.toNat := by
  unfold ixN
  rw [if_pos h0, if_pos (by omega)]
theorem map_set {α : Type} {f : α → V} {xs : List α} {i : Nat} {x : α} : (xs.map f).set i (f x) = (xs.set i x).map f := by
  rw [List.map_set]
theorem map_app {α : Type} {f : α → V} {xs : List α} {x : α} : xs.map f ++ [f x] = (xs ++ [x]).map f := by
  rw [List.map_append]; rfl

/-! ### readings by values -/
/-- a + b -/
def aAdd : R2 := fun x y H Q => rI0 (fun i j => .int (i + j)) x y H Q ∨ (∃ i j, x = .str i ∧ y = .str j ∧ i.length + j.length ≤ sizeLine ∧ Q (.str (i ++ j)) H) ∨ rCat x y H Q
/-- a * b -/
def aMul : R2 := fun x y H Q => rI CMul (fun i j => .int (i * j)) x y H Q ∨ rRep x y H Q
/-- x == y of lists of flat things -/
def aEq (K : PySem.W.Frag) : R2 := fun x y H Q => rEq x y H Q ∨ rEqD K x y H Q
def aNe (K : PySem.W.Frag) : R2 := fun x y H Q => rNe x y H Q ∨ rNeD K x y H Q
section
variable {X : Cx}
theorem o_add : OpR X (binaryOp .Add) aAdd := op_add.or (op_add_str.or op_cat)
theorem o_mul : OpR X (binaryOp .Mult) aMul := op_mul.or op_rep
theorem o_eq (hu : X.A.units + 64 < cLine) : OpR X (compareOp .Eq) (aEq X.K) := op_eq.or (op_eqD hu)
theorem o_ne (hu : X.A.units + 64 < cLine) : OpR X (compareOp .NotEq) (aNe X.K) := op_ne.or (op_neD hu)
end
section
variable {i j : Int} {a b : Str} {p q : Addr} {H : Hp} {Q : VK} {xs ys : List V} {K : PySem.W.Frag}
theorem w_addI (k : Q (.int (i + j)) H) : aAdd (.int i) (.int j) H Q := .inl ⟨i, j, rfl, rfl, k⟩
theorem w_addS (h : a.length + b.length ≤ sizeLine) (k : Q (.str (a ++ b)) H) : aAdd (.str a) (.str b) H Q := .inr (.inl ⟨a, b, rfl, rfl, h, k⟩)
theorem w_addLM {α : Type} {f : α → V} {us vs : List α} (hp : H p = some (.lst (us.map f))) (hq : H q = some (.lst (vs.map f))) (hl : us.length + vs.length ≤ sizeLine) (k : ∀ r, H r = none → Q (.ref r) (upd H r (.lst ((us ++ vs).map f)))) : aAdd (.ref p) (.ref q) H Q :=
  .inr (.inr ⟨p, q, _, _, rfl, rfl, hp, hq, by simpa using hl, fun r hr => by rw [← List.map_append]; exact k r hr⟩)
theorem w_addL (hp : H p = some (.lst xs)) (hq : H q = some (.lst ys)) (hl : xs.length + ys.length ≤ sizeLine) (k : ∀ r, H r = none → Q (.ref r) (upd H r (.lst (xs ++ ys)))) : aAdd (.ref p) (.ref q) H Q :=
  .inr (.inr ⟨p, q, _, _, rfl, rfl, hp, hq, hl, k⟩)
theorem w_mulI (h : CMul i j) (k : Q (.int (i * j)) H) : aMul (.int i) (.int j) H Q := .inl ⟨i, j, rfl, rfl, h, k⟩
theorem rep_map {α : Type} {f : α → V} {x : α} {n : Nat} : (List.replicate n [f x]).flatten = (List.replicate n x).map f := by
  induction n with
  | zero => rfl
  | succ n ih => rw [List.replicate_succ, List.flatten_cons, ih, List.replicate_succ]; rfl
theorem w_repI (hp : H p = some (.lst [.int i])) (h1 : -(2 ^ 63) ≤ j) (h2 : j < 2 ^ 63) (h3 : j.toNat ≤ sizeLine) (k : ∀ r, H r = none → Q (.ref r) (upd H r (.lst ((List.replicate j.toNat i).map V.int)))) : aMul (.ref p) (.int j) H Q :=
  .inr ⟨p, j, _, rfl, rfl, hp, h1, h2, by simpa using h3, fun r hr => by rw [rep_map (f := V.int)]; exact k r hr⟩
theorem w_repB {c : Bool} (hp : H p = some (.lst [.bl c])) (h1 : -(2 ^ 63) ≤ j) (h2 : j < 2 ^ 63) (h3 : j.toNat ≤ sizeLine) (k : ∀ r, H r = none → Q (.ref r) (upd H r (.lst ((List.replicate j.toNat c).map V.bl)))) : aMul (.ref p) (.int j) H Q :=
  .inr ⟨p, j, _, rfl, rfl, hp, h1, h2, by simpa using h3, fun r hr => by rw [rep_map (f := V.bl)]; exact k r hr⟩
theorem w_I0 {g : Int → Int → V} (k : Q (g i j) H) : rI0 g (.int i) (.int j) H Q := ⟨i, j, rfl, rfl, k⟩
theorem w_I {C : Int → Int → Prop} {g : Int → Int → V} (c : C i j) (k : Q (g i j) H) : rI C g (.int i) (.int j) H Q := ⟨i, j, rfl, rfl, c, k⟩
theorem w_U {g : Int → V} (k : Q (g i) H) : rU g (.int i) H Q := ⟨i, rfl, k⟩
theorem dI : decide (V.int i = V.int j) = decide (i = j) := by simp
theorem dS : decide (V.str a = V.str b) = decide (a = b) := by simp
theorem dB {c d : Bool} : decide (V.bl c = V.bl d) = decide (c = d) := by simp
theorem w_eqI (k : Q (.bl (decide (i = j))) H) : aEq K (.int i) (.int j) H Q := .inl ⟨rfl, by rw [dI]; exact k⟩
theorem w_eqS (k : Q (.bl (decide (a = b))) H) : aEq K (.str a) (.str b) H Q := .inl ⟨rfl, by rw [dS]; exact k⟩
theorem w_eqB {c d : Bool} (k : Q (.bl (decide (c = d))) H) : aEq K (.bl c) (.bl d) H Q := .inl ⟨rfl, by rw [dB]; exact k⟩
theorem w_neI (k : Q (.bl (!decide (i = j))) H) : aNe K (.int i) (.int j) H Q := .inl ⟨rfl, by rw [dI]; exact k⟩
theorem w_neS (k : Q (.bl (!decide (a = b))) H) : aNe K (.str a) (.str b) H Q := .inl ⟨rfl, by rw [dS]; exact k⟩
theorem w_neB {c d : Bool} (k : Q (.bl (!decide (c = d))) H) : aNe K (.bl c) (.bl d) H Q := .inl ⟨rfl, by rw [dB]; exact k⟩

theorem eqvAll_int : ∀ (ns ms : List Int), PyData.eqvAll (ns.map PyData.int) (ms.map PyData.int) = decide (ns = ms) := by
  intro ns
  induction ns with
  | nil => intro ms; cases ms <;> simp [PyData.eqvAll]
  | cons n ns ih =>
    intro ms
    cases ms with
    | nil => simp [PyData.eqvAll]
    | cons m ms =>
      rw [List.map_cons, List.map_cons, PyData.eqvAll, ih, PyData.eqv, Bool.eq_iff_iff]
      simp
theorem dpAllI : ∀ (ns : List Int), DpAll K H (ns.map V.int) (ns.map PyData.int)
  | [] => .nil
  | n :: ns => .cons (.int n) (dpAllI ns)
theorem shapedI (ns : List Int) : SeqAt.shaped (.list (ns.map PyData.int)) = true := by
  have h1 : ∀ ns : List Int, PyData.canLayAll0 (ns.map PyData.int) = true := by
    intro ns
    induction ns with
    | nil => rfl
    | cons n ns ih => rw [List.map_cons, PyData.canLayAll0, ih]; rfl
  have h2 : ∀ ns : List Int, PyData.depthAll (ns.map PyData.int) = 0 := by
    intro ns
    induction ns with
    | nil => rfl
    | cons n ns ih => rw [List.map_cons, PyData.depthAll, ih]; rfl
  unfold SeqAt.shaped
  rw [PyData.canLay0, h1, PyData.depth, h2]
  decide
theorem w_eqLI {ns ms : List Int} (hp : SqL K H p (ns.map V.int)) (hq : SqL K H q (ms.map V.int)) (k : Q (.bl (decide (ns = ms))) H) : aEq K (.ref p) (.ref q) H Q :=
  .inr ⟨_, _, .lst hp (dpAllI ns), .lst hq (dpAllI ms), shapedI ns, shapedI ms, by rw [PyData.eqv, eqvAll_int]; exact k⟩
theorem w_neLI {ns ms : List Int} (hp : SqL K H p (ns.map V.int)) (hq : SqL K H q (ms.map V.int)) (k : Q (.bl (!decide (ns = ms))) H) : aNe K (.ref p) (.ref q) H Q :=
  .inr ⟨_, _, .lst hp (dpAllI ns), .lst hq (dpAllI ms), shapedI ns, shapedI ms, by rw [PyData.eqv, eqvAll_int]; exact k⟩
end
/-- is None -/
def aIsN : R2 := fun x y H Q => y = .non ∧ Q (.bl (decide (x = .non))) H
def aNotN : R2 := fun x y H Q => y = .non ∧ Q (.bl (!decide (x = .non))) H
theorem o_isN {X : Cx} : OpR X (compareOp .Is) aIsN := op_isN
theorem o_notN {X : Cx} : OpR X (compareOp .IsNot) aNotN := op_notN
section
variable {i j : Int} {a b : Str} {p q : Addr} {H : Hp} {Q : VK} {xs ys : List V} {K : PySem.W.Frag} {x v : V}
theorem w_isN_n (k : Q (.bl true) H) : aIsN .non .non H Q := ⟨rfl, k⟩
theorem w_isN_i (k : Q (.bl false) H) : aIsN (.int i) .non H Q := ⟨rfl, k⟩
theorem w_isN_r (k : Q (.bl false) H) : aIsN (.ref p) .non H Q := ⟨rfl, k⟩
theorem w_isN_s (k : Q (.bl false) H) : aIsN (.str a) .non H Q := ⟨rfl, k⟩
theorem w_notN_n (k : Q (.bl false) H) : aNotN .non .non H Q := ⟨rfl, k⟩
theorem w_notN_i (k : Q (.bl true) H) : aNotN (.int i) .non H Q := ⟨rfl, k⟩
theorem w_notN_r (k : Q (.bl true) H) : aNotN (.ref p) .non H Q := ⟨rfl, k⟩
theorem w_notN_s (k : Q (.bl true) H) : aNotN (.str a) .non H Q := ⟨rfl, k⟩
/-! x[i] -/
theorem w_ixC {xs : List V} {n : Nat} (hp : H p = some (.lst xs)) (hv : xs[n]? = some v) (k : Q v H) : rIx K (.ref p) (.int (n : Int)) H Q := .inl ⟨p, _, _, v, rfl, rfl, SqL.of hp, atI_nat hv, k⟩
theorem w_ixM {α : Type} [Inhabited α] {f : α → V} {us : List α} (hp : H p = some (.lst (us.map f))) (h0 : 0 ≤ i) (hl : i.toNat < us.length) (k : Q (f (us.getD i.toNat default)) H) : rIx K (.ref p) (.int i) H Q :=
  .inl ⟨p, _, _, _, rfl, rfl, SqL.of hp, atI_pos h0 (map_getD hl), k⟩
theorem w_ixL (hp : H p = some (.lst xs)) (h0 : 0 ≤ i) (hv : xs[i.toNat]? = some v) (k : Q v H) : rIx K (.ref p) (.int i) H Q :=
  .inl ⟨p, _, _, v, rfl, rfl, SqL.of hp, atI_pos h0 hv, k⟩
theorem w_ixT (hp : H p = some (.tup xs)) (h0 : 0 ≤ i) (hv : xs[i.toNat]? = some v) (k : Q v H) : rIx K (.ref p) (.int i) H Q :=
  .inr (.inl ⟨p, _, _, v, rfl, rfl, .inl (.inl hp), atI_pos h0 hv, k⟩)
theorem w_ixS {c : Nat} (hl : a.length ≤ sizeLine) (h0 : 0 ≤ i) (hv : a.cps.toList[i.toNat]? = some c) (k : Q (.str ⟨#[c]⟩) H) : rIx K (.str a) (.int i) H Q :=
  .inr (.inr ⟨a, _, c, rfl, rfl, hl, atI_pos h0 hv, k⟩)
/-! x[i] = v -/
theorem w_setM {α : Type} {f : α → V} {us : List α} {u : α} {Q : Hp → Prop} (hp : H p = some (.lst (us.map f))) (h0 : 0 ≤ i) (hl : i.toNat < us.length) (k : Q (upd H p (.lst ((us.set i.toNat u).map f)))) : rSetL (.ref p) (.int i) (f u) H Q :=
  ⟨p, _, _, i.toNat, rfl, rfl, hp, ixN_pos h0 (by simpa using hl), by rw [map_set]; exact k⟩
theorem w_setMI {us : List Int} {u : Int} {Q : Hp → Prop} (hp : H p = some (.lst (us.map V.int))) (h0 : 0 ≤ i) (hl : i.toNat < us.length) (k : Q (upd H p (.lst ((us.set i.toNat u).map V.int)))) : rSetL (.ref p) (.int i) (.int u) H Q := w_setM hp h0 hl k
theorem w_setMB {us : List Bool} {u : Bool} {Q : Hp → Prop} (hp : H p = some (.lst (us.map V.bl))) (h0 : 0 ≤ i) (hl : i.toNat < us.length) (k : Q (upd H p (.lst ((us.set i.toNat u).map V.bl)))) : rSetL (.ref p) (.int i) (.bl u) H Q := w_setM hp h0 hl k
theorem w_setMS {us : List Str} {u : Str} {Q : Hp → Prop} (hp : H p = some (.lst (us.map V.str))) (h0 : 0 ≤ i) (hl : i.toNat < us.length) (k : Q (upd H p (.lst ((us.set i.toNat u).map V.str)))) : rSetL (.ref p) (.int i) (.str u) H Q := w_setM hp h0 hl k
theorem w_setL {u : V} {Q : Hp → Prop} (hp : H p = some (.lst xs)) (h0 : 0 ≤ i) (hl : i.toNat < xs.length) (k : Q (upd H p (.lst (xs.set i.toNat u)))) : rSetL (.ref p) (.int i) u H Q :=
  ⟨p, _, _, i.toNat, rfl, rfl, hp, ixN_pos h0 hl, k⟩
/-! methods of lists: the type is asked first -/
theorem w_tyL (hp : H p = some (.lst xs)) (k : A) : tyV K "list" (.ref p) H ∧ A := ⟨.inl ⟨rfl, _, SqL.of hp⟩, k⟩
theorem w_tyS (k : A) : tyV K "str" (.str a) H ∧ A := ⟨rfl, k⟩
theorem w_appMI {us : List Int} {u : Int} (hp : H p = some (.lst (us.map V.int))) (hl : us.length < sizeLine) (k : Q .non (upd H p (.lst ((us ++ [u]).map V.int)))) : rAppend (.ref p) [.int u] H Q := ⟨p, _, _, rfl, rfl, hp, by simpa using hl, by rw [map_app (f := V.int)]; exact k⟩
theorem w_appMS {us : List Str} {u : Str} (hp : H p = some (.lst (us.map V.str))) (hl : us.length < sizeLine) (k : Q .non (upd H p (.lst ((us ++ [u]).map V.str)))) : rAppend (.ref p) [.str u] H Q := ⟨p, _, _, rfl, rfl, hp, by simpa using hl, by rw [map_app (f := V.str)]; exact k⟩
theorem w_appMB {us : List Bool} {u : Bool} (hp : H p = some (.lst (us.map V.bl))) (hl : us.length < sizeLine) (k : Q .non (upd H p (.lst ((us ++ [u]).map V.bl)))) : rAppend (.ref p) [.bl u] H Q := ⟨p, _, _, rfl, rfl, hp, by simpa using hl, by rw [map_app (f := V.bl)]; exact k⟩
theorem w_appL {u : V} (hp : H p = some (.lst xs)) (hl : xs.length < sizeLine) (k : Q .non (upd H p (.lst (xs ++ [u])))) : rAppend (.ref p) [u] H Q := ⟨p, _, _, rfl, rfl, hp, hl, k⟩
theorem w_rev (hp : H p = some (.lst xs)) (k : Q .non (upd H p (.lst xs.reverse))) : rReverse (.ref p) [] H Q := ⟨p, _, rfl, rfl, hp, k⟩
def rInsert : V → List V → Hp → VK → Prop := fun x vs H Q => ∃ (l : Addr) (xs : List V) (i : Int) (y : V), x = .ref l ∧ vs = [.int i, y] ∧ H l = some (.lst xs) ∧ xs.length < sizeLine ∧ 0 ≤ i ∧ i < 2 ^ 63 ∧ Q .non (upd H l (.lst (xs.take i.toNat ++ [y] ++ xs.drop i.toNat)))
theorem m_insert {X : Cx} : MtR X "list.insert" rInsert := mt_insert
def insAt {α : Type} (us : List α) (n : Nat) (u : α) : List α := us.take n ++ [u] ++ us.drop n
theorem w_insMI {us : List Int} {u : Int} (hp : H p = some (.lst (us.map V.int))) (hl : us.length < sizeLine) (h0 : 0 ≤ i) (h1 : i < 2 ^ 63) (k : Q .non (upd H p (.lst ((insAt us i.toNat u).map V.int)))) : rInsert (.ref p) [.int i, .int u] H Q :=
  ⟨p, _, _, _, rfl, rfl, hp, by simpa using hl, h0, h1, by rw [← List.map_take, ← List.map_drop, map_app (f := V.int), ← List.map_append]; exact k⟩
theorem w_insMS {us : List Str} {u : Str} (hp : H p = some (.lst (us.map V.str))) (hl : us.length < sizeLine) (h0 : 0 ≤ i) (h1 : i < 2 ^ 63) (k : Q .non (upd H p (.lst ((insAt us i.toNat u).map V.str)))) : rInsert (.ref p) [.int i, .str u] H Q :=
  ⟨p, _, _, _, rfl, rfl, hp, by simpa using hl, h0, h1, by rw [← List.map_take, ← List.map_drop, map_app (f := V.str), ← List.map_append]; exact k⟩
/-! built-ins -/
def rLen (K : PySem.W.Frag) : List V → Hp → VK → Prop := fun xs H Q => ∃ x n, xs = [x] ∧ LenV K x H n ∧ Q (.int n) H
theorem b_len {X : Cx} : CallR X (.builtin "len") (rLen X.K) := call_len
theorem w_lenL (hp : H p = some (.lst xs)) (k : Q (.int xs.length) H) : rLen K [.ref p] H Q := ⟨_, _, rfl, .inl ⟨_, SqL.of hp, rfl⟩, k⟩
theorem w_lenM {α : Type} {f : α → V} {us : List α} (hp : H p = some (.lst (us.map f))) (k : Q (.int us.length) H) : rLen K [.ref p] H Q := ⟨_, _, rfl, .inl ⟨_, SqL.of hp, rfl⟩, by rw [List.length_map]; exact k⟩
theorem w_lenT (hp : H p = some (.tup xs)) (k : Q (.int xs.length) H) : rLen K [.ref p] H Q := ⟨_, _, rfl, .inr ⟨_, .inl (.inl hp), rfl⟩, k⟩
theorem w_lenS (hl : a.length ≤ sizeLine) (k : Q (.int a.length) H) : rLen K [.str a] H Q := ⟨_, _, rfl, ⟨hl, rfl⟩, k⟩
def rAbs : List V → Hp → VK → Prop := fun xs H Q => ∃ i, xs = [.int i] ∧ Q (.int (if i < 0 then -i else i)) H
theorem b_abs {X : Cx} : CallR X (.builtin "abs") rAbs := call_abs
theorem abs_nat (i : Int) : (if i < 0 then -i else i) = (i.natAbs : Int) := by split <;> omega
theorem w_abs (k : Q (.int (i.natAbs : Int)) H) : rAbs [.int i] H Q := ⟨i, rfl, by rw [abs_nat]; exact k⟩
def rMax2 : List V → Hp → VK → Prop := fun xs H Q => ∃ i j, xs = [.int i, .int j] ∧ Q (.int (if j > i then j else i)) H
def rMin2 : List V → Hp → VK → Prop := fun xs H Q => ∃ i j, xs = [.int i, .int j] ∧ Q (.int (if j < i then j else i)) H
theorem b_max2 {X : Cx} (hc : X.calm = true) : CallR X (.builtin "max") rMax2 := call_max2 hc
theorem b_min2 {X : Cx} (hc : X.calm = true) : CallR X (.builtin "min") rMin2 := call_min2 hc
theorem w_max2 (k : Q (.int (max i j)) H) : rMax2 [.int i, .int j] H Q := ⟨i, j, rfl, by rw [show (if j > i then j else i) = max i j by split <;> omega]; exact k⟩
theorem w_min2 (k : Q (.int (min i j)) H) : rMin2 [.int i, .int j] H Q := ⟨i, j, rfl, by rw [show (if j < i then j else i) = min i j by split <;> omega]; exact k⟩
def rInt1 : List V → Hp → VK → Prop := fun xs H Q => (∃ i, xs = [.int i] ∧ Q (.int i) H) ∨ ∃ k, xs = [.bl k] ∧ Q (.int (if k then 1 else 0)) H
theorem b_int {X : Cx} : CallR X (.type "int") rInt1 := call_int1
theorem w_int (k : Q (.int i) H) : rInt1 [.int i] H Q := .inl ⟨i, rfl, k⟩
def rListOf (K : PySem.W.Frag) : List V → Hp → VK → Prop := fun xs H Q => ∃ p ys, xs = [.ref p] ∧ (SqL K H p ys ∨ SqT K H p ys) ∧ ∀ l, H l = none → Q (.ref l) (upd H l (.lst ys))
theorem b_list {X : Cx} : CallR X (.type "list") (rListOf X.K) := call_list_of
theorem w_listL (hp : H p = some (.lst xs)) (k : ∀ l, H l = none → Q (.ref l) (upd H l (.lst xs))) : rListOf K [.ref p] H Q := ⟨p, _, rfl, .inl (SqL.of hp), k⟩
theorem w_listT (hp : H p = some (.tup xs)) (k : ∀ l, H l = none → Q (.ref l) (upd H l (.lst xs))) : rListOf K [.ref p] H Q := ⟨p, _, rfl, .inr (.inl (.inl hp)), k⟩
/-! isinstance -/
section
variable {n : String} {c : Bool}
theorem w_isiI (e : kitB "int" n = some c) (k : Q (.bl c) H) : rIsi K [.int i, .ty n] H Q := ⟨_, _, _, _, c, rfl, .ty n, .base (.int i), kit_ty e, k⟩
theorem w_isiB {d : Bool} (e : kitB "bool" n = some c) (k : Q (.bl c) H) : rIsi K [.bl d, .ty n] H Q := ⟨_, _, _, _, c, rfl, .ty n, .base (.bl d), kit_ty e, k⟩
theorem w_isiS (e : kitB "str" n = some c) (k : Q (.bl c) H) : rIsi K [.str a, .ty n] H Q := ⟨_, _, _, _, c, rfl, .ty n, .base (.str a), kit_ty e, k⟩
theorem w_isiN (e : kitB "NoneType" n = some c) (k : Q (.bl c) H) : rIsi K [.non, .ty n] H Q := ⟨_, _, _, _, c, rfl, .ty n, .base .non, kit_ty e, k⟩
theorem w_isiL (hp : H p = some (.lst xs)) (e : kitB "list" n = some c) (k : Q (.bl c) H) : rIsi K [.ref p, .ty n] H Q := ⟨_, _, _, _, c, rfl, .ty n, .base (.lst hp), kit_ty e, k⟩
theorem w_isiT (hp : H p = some (.tup xs)) (e : kitB "tuple" n = some c) (k : Q (.bl c) H) : rIsi K [.ref p, .ty n] H Q := ⟨_, _, _, _, c, rfl, .ty n, .base (.tup hp), kit_ty e, k⟩
end
theorem kb_ii : kitB "int" "int" = some true := by decide +kernel
theorem kb_ib : kitB "int" "bool" = some false := by decide +kernel
theorem kb_is : kitB "int" "str" = some false := by decide +kernel
theorem kb_il : kitB "int" "list" = some false := by decide +kernel
theorem kb_it : kitB "int" "tuple" = some false := by decide +kernel
theorem kb_bi : kitB "bool" "int" = some true := by decide +kernel
theorem kb_bb : kitB "bool" "bool" = some true := by decide +kernel
theorem kb_bt : kitB "bool" "tuple" = some false := by decide +kernel
theorem kb_ss : kitB "str" "str" = some true := by decide +kernel
theorem kb_si : kitB "str" "int" = some false := by decide +kernel
theorem kb_st : kitB "str" "tuple" = some false := by decide +kernel
theorem kb_sl : kitB "str" "list" = some false := by decide +kernel
theorem kb_ll : kitB "list" "list" = some true := by decide +kernel
theorem kb_lt : kitB "list" "tuple" = some false := by decide +kernel
theorem kb_li : kitB "list" "int" = some false := by decide +kernel
theorem kb_tt : kitB "tuple" "tuple" = some true := by decide +kernel
theorem kb_tl : kitB "tuple" "list" = some false := by decide +kernel
theorem kb_nt : kitB "NoneType" "tuple" = some false := by decide +kernel
theorem kb_ni : kitB "NoneType" "int" = some false := by decide +kernel
theorem kb_nl : kitB "NoneType" "list" = some false := by decide +kernel
theorem kb_ns : kitB "NoneType" "str" = some false := by decide +kernel

/-! truth, tests -/
/-- a value's truth -/
def aTru (K : PySem.W.Frag) : V → Hp → (Bool → Hp → Prop) → Prop := fun x H Q => ∃ k, TruV K x H k ∧ Q k H
def cTru (K : PySem.W.Frag) (ta : TE) : TT := fun σ H Q => ta σ H fun x H' => aTru K x H' Q
theorem pt_tru {X : Cx} {e : Expr} {ta : TE} (ha : PE X e ta) (he : ∀ whole, isTrue e X.env whole = (do let v ← whole; standAt e.pos; holding [v] (truthy v)) := by intro _; rfl) : PT X e (cTru X.K ta) := pt_truth ha he
section
variable {R : Bool → Hp → Prop} {c : Bool}
theorem w_truB (k : R c H) : aTru K (.bl c) H R := ⟨c, rfl, k⟩
theorem w_truI (k : R (i != 0) H) : aTru K (.int i) H R := ⟨_, rfl, k⟩
theorem w_truN (k : R false H) : aTru K .non H R := ⟨_, rfl, k⟩
theorem w_truS (hl : a.length ≤ sizeLine) (k : R ((a.length : Int) != 0) H) : aTru K (.str a) H R := ⟨_, ⟨hl, rfl⟩, k⟩
theorem w_truL (hp : H p = some (.lst xs)) (k : R (!xs.isEmpty) H) : aTru K (.ref p) H R := ⟨_, .inl ⟨_, SqL.of hp, rfl⟩, k⟩
theorem w_truT (hp : H p = some (.tup xs)) (k : R (!xs.isEmpty) H) : aTru K (.ref p) H R := ⟨_, .inr (.inl ⟨_, .inl (.inl hp), rfl⟩), k⟩
end
def aB (x : V) (H : Hp) (R : Bool → Hp → Prop) : Prop := ∃ k, x = .bl k ∧ R k H
def cB (t : TE) : TT := fun σ H Q => t σ H fun x H' => aB x H' Q
theorem pt_cmpA {X : Cx} {op : CmpOp} {r : R2} {e1 e2 : Expr} {ta tb : TE} {pos : Pos} (ho : OpR X (compareOp op) r) (ha : PE X e1 ta) (hb : PE X e2 tb) (hm : behindInMarks op e2 = false) : PT X (.Compare e1 [op] [e2] pos) (cB (tOp r ta tb)) := pt_cmpR ho ha hb hm
theorem pt_chainA {X : Cx} {op op' : CmpOp} {r r' : R2} {e1 e2 e3 : Expr} {ta tb tc : TE} {pos : Pos} (ho : OpR X (compareOp op) r) (ho' : OpR X (compareOp op') r') (ha : PE X e1 ta) (hb : PE X e2 tb) (hc : PE X e3 tc) (hm : lastMarks [op, op'] [e2, e3] = false := by with_unfolding_all rfl) :
    PT X (.Compare e1 [op, op'] [e2, e3] pos) (cB (tChain r r' ta tb tc)) := pt_chain ho ho' ha hb hc hm
theorem w_B {c : Bool} {R : Bool → Hp → Prop} (k : R c H) : aB (.bl c) H R := ⟨c, rfl, k⟩
end
/-! ### ifs -/
section
variable {A B : Prop} {p : Prop} [Decidable p]
theorem w_ite (h1 : p → A) (h2 : ¬p → B) : if decide p = true then A else B := by
  by_cases h : p
  · rw [if_pos (by simpa using h)]; exact h1 h
  · rw [if_neg (by simpa using h)]; exact h2 h
theorem w_iteT (h : p) (k : A) : if decide p = true then A else B := by rw [if_pos (by simpa using h)]; exact k
theorem w_iteF (h : ¬p) (k : B) : if decide p = true then A else B := by rw [if_neg (by simpa using h)]; exact k
theorem w_iteN (h1 : ¬p → A) (h2 : p → B) : if (!decide p) = true then A else B := by
  by_cases h : p
  · rw [if_neg (by simpa using h)]; exact h2 h
  · rw [if_pos (by simpa using h)]; exact h1 h
theorem w_iteNT (h : ¬p) (k : A) : if (!decide p) = true then A else B := by rw [if_pos (by simpa using h)]; exact k
theorem w_iteNF (h : p) (k : B) : if (!decide p) = true then A else B := by rw [if_neg (by simpa using h)]; exact k
theorem w_ite1 (k : A) : if true = true then A else B := by rw [if_pos rfl]; exact k
theorem w_ite0 (k : B) : if false = true then A else B := by rw [if_neg Bool.false_ne_true]; exact k
theorem w_iteb {b : Bool} (h1 : b = true → A) (h2 : b = false → B) : if b = true then A else B := by
  cases b
  · rw [if_neg Bool.false_ne_true]; exact h2 rfl
  · rw [if_pos rfl]; exact h1 rfl
theorem w_itebT {b : Bool} (h : b = true) (k : A) : if b = true then A else B := by rw [if_pos h]; exact k
theorem w_itebF {b : Bool} (h : b = false) (k : B) : if b = true then A else B := by rw [h, if_neg Bool.false_ne_true]; exact k
theorem w_itenb {b : Bool} (h1 : b = false → A) (h2 : b = true → B) : if (!b) = true then A else B := by
  cases b
  · rw [if_pos (by decide)]; exact h1 rfl
  · rw [if_neg (by decide)]; exact h2 rfl
theorem w_itenbT {b : Bool} (h : b = false) (k : A) : if (!b) = true then A else B := by rw [h, if_pos (by decide)]; exact k
theorem w_itenbF {b : Bool} (h : b = true) (k : B) : if (!b) = true then A else B := by rw [h, if_neg (by decide)]; exact k
end
/-! ### structure: what a reading says, one step -/
section
variable {σ σ' : St} {H : Hp} {Q : VK} {D : Ends} {ta tb : TE} {t u : TT} {tl tr : TA} {ts us : TS} {g : TG} {gs : TGs} {r : R2} {i : Nat} {v : V} {K : PySem.W.Frag}
theorem s_var (h : σ[i]? = some (some v)) (k : Q v H) : tVar i σ H Q := ⟨v, h, k⟩
theorem s_c (k : Q v H) : tC v σ H Q := k
theorem s_op (k : ta σ H fun x H1 => tb σ H1 fun y H2 => r x y H2 Q) : tOp r ta tb σ H Q := k
theorem s_un {r : V → Hp → VK → Prop} (k : ta σ H fun x H1 => r x H1 Q) : tUn r ta σ H Q := k
theorem s_nil {Q : List V → Hp → Prop} (k : Q [] H) : tNil σ H Q := k
theorem s_cons {Q : List V → Hp → Prop} (k : ta σ H fun x H1 => tl σ H1 fun xs H2 => Q (x :: xs) H2) : tCons ta tl σ H Q := k
theorem s_callS {sp : Sp} {E : St → XK} (k : tl σ H fun vs H1 => sp vs H1 Q (E σ)) : tCallS sp E tl σ H Q := k
theorem s_CB {r : List V → Hp → VK → Prop} (k : tl σ H fun vs H1 => r vs H1 Q) : tCB r tl σ H Q := k
theorem s_BM {T : String} {r : V → List V → Hp → VK → Prop} (k : ta σ H fun x H1 => tyV K T x H1 ∧ tl σ H1 fun xs H2 => r x xs H2 Q) : tBM K T r ta tl σ H Q := k
theorem s_BM0 {T : String} {r : V → List V → Hp → VK → Prop} (k : ta σ H fun x H1 => tyV K T x H1 ∧ r x [] H1 Q) : tBM0 K T r ta σ H Q := k
theorem s_seq (k : ts { D with nx := us D } σ H) : tSeq ts us D σ H := k
theorem s_next (k : D.nx σ H) : tNext D σ H := k
theorem s_asg (k : ta σ H fun x H1 => g x σ H1 D.nx) : tAsg ta g D σ H := k
theorem s_name {Q : St → Hp → Prop} (e : σ.set i (some v) = σ') (k : Q σ' H) : gName i v σ H Q := by
  show Q (σ.set i (some v)) H
  rw [e]; exact k
theorem s_sub {to ti : TE} {t : TSet} {Q : St → Hp → Prop} (k : to σ H fun o H1 => ti σ H1 fun i H2 => t o i v H2 fun H3 => Q σ H3) : gSub to ti t v σ H Q := k
theorem s_ret (k : ta σ H D.rt) : tRet ta D σ H := k
theorem s_retN (k : D.rt .non H) : tRetN D σ H := k
theorem s_drop (k : ta σ H fun _ H1 => D.nx σ H1) : tDrop ta D σ H := k
theorem s_ifS (k : t σ H fun b H1 => if b = true then ts D σ H1 else us D σ H1) : tIfS t ts us D σ H := k
theorem s_if (k : t σ H fun b H1 => if b = true then ta σ H1 Q else tb σ H1 Q) : tIf t ta tb σ H Q := k
theorem s_tru {Q : Bool → Hp → Prop} (k : ta σ H fun x H1 => aTru K x H1 Q) : cTru K ta σ H Q := k
theorem s_B {Q : Bool → Hp → Prop} (k : ta σ H fun x H1 => aB x H1 Q) : cB ta σ H Q := k
theorem s_and {Q : Bool → Hp → Prop} (k : t σ H fun c H1 => if c = true then u σ H1 Q else Q false H1) : tAnd t u σ H Q := k
theorem s_or {Q : Bool → Hp → Prop} (k : t σ H fun c H1 => if c = true then Q true H1 else u σ H1 Q) : tOr t u σ H Q := k
theorem s_not {Q : Bool → Hp → Prop} (k : t σ H fun c H1 => Q (!c) H1) : tNot t σ H Q := k
theorem s_andV (k : ta σ H fun x H1 => aB x H1 fun c H2 => if c = true then tb σ H2 Q else Q (.bl false) H2) : tAndV ta tb σ H Q := k
theorem s_orV (k : ta σ H fun x H1 => aB x H1 fun c H2 => if c = true then Q (.bl true) H2 else tb σ H2 Q) : tOrV ta tb σ H Q := k
theorem s_notV (k : ta σ H fun x H1 => aB x H1 fun c H2 => Q (.bl (!c)) H2) : tNotV ta σ H Q := k
theorem s_lst (k : tl σ H fun xs H1 => xs.length ≤ sizeLine ∧ ∀ p, H1 p = none → Q (.ref p) (upd H1 p (.lst xs))) : tLst tl σ H Q := k
theorem s_tup (k : tl σ H fun xs H1 => xs.length ≤ sizeLine ∧ ∀ p, H1 p = none → Q (.ref p) (upd H1 p (.tup xs))) : tTup tl σ H Q := k
theorem s_chain {r' : R2} {tc : TE} (k : ta σ H fun x H1 => tb σ H1 fun y H2 => r x y H2 fun z H3 => aB z H3 fun c H4 => if c = true then tc σ H4 fun w' H5 => r' y w' H5 Q else Q (.bl false) H4) : tChain r r' ta tb tc σ H Q := by
  unfold tChain
  have hm := k
  exact k
end
/-! ### slices -/
def rSlA (K : PySem.W.Frag) : V → Option Int → Option Int → Hp → VK → Prop := fun x lo hi H Q => rSlL K x lo hi H Q ∨ rSlS x lo hi H Q ∨ rSlT K x lo hi H Q
theorem sl_any {X : Cx} : SlR X (rSlA X.K) := sl_list.or (sl_str.or sl_tup)
theorem not_mem2 {a b : Addr} {l : List Addr} (h : a ≠ b) (h2 : a ∉ l) : a ∉ b :: l := fun z => by
  rcases List.mem_cons.mp z with z | z
  · exact h z
  · exact h2 z
theorem w_new {n : Nat} {B : Prop} (h : n ≤ sizeLine) (k : B) : n ≤ sizeLine ∧ B := ⟨h, k⟩
/-- the part of a list from lo to hi -/
def cut {α : Type} (xs : List α) (lo hi : Option Int) : List α := (xs.drop (HT.sIx xs.length 0 lo)).take (HT.sIx xs.length xs.length hi - HT.sIx xs.length 0 lo)
theorem cutV_map {α : Type} {f : α → V} {us : List α} {lo hi : Option Int} : cutV (us.map f) lo hi = (cut us lo hi).map f := by
  unfold cutV cut
  rw [List.length_map, List.map_take, List.map_drop]
section
variable {σ : St} {H : Hp} {Q : VK} {te : TE} {K : PySem.W.Frag} {p : Addr} {lo hi : Option Int} {xs : List V} {z : Str}
theorem s_sl {r : V → Option Int → Option Int → Hp → VK → Prop} {tl th : TO} (k : te σ H fun x H1 => tl σ H1 fun l H2 => th σ H2 fun u H3 => r x l u H3 Q) : tSl r te tl th σ H Q := k
theorem s_nopart {R : Option Int → Hp → Prop} (k : R none H) : tNoPart σ H R := k
def aPart (R : Option Int → Hp → Prop) : VK := fun x H1 => ∃ i, x = .int i ∧ R (some i) H1
theorem s_part {R : Option Int → Hp → Prop} (k : te σ H (aPart R)) : tPart te σ H R := k
theorem w_part {i : Int} {R : Option Int → Hp → Prop} (k : R (some i) H) : aPart R (.int i) H := ⟨i, rfl, k⟩
theorem w_slM {α : Type} {f : α → V} {us : List α} (hp : H p = some (.lst (us.map f))) (k : ∀ r, H r = none → Q (.ref r) (upd H r (.lst ((cut us lo hi).map f)))) : rSlA K (.ref p) lo hi H Q :=
  .inl ⟨p, _, rfl, SqL.of hp, fun r hr => by rw [cutV_map]; exact k r hr⟩
theorem w_slL (hp : H p = some (.lst xs)) (k : ∀ r, H r = none → Q (.ref r) (upd H r (.lst (cutV xs lo hi)))) : rSlA K (.ref p) lo hi H Q :=
  .inl ⟨p, _, rfl, SqL.of hp, k⟩
theorem w_slQ {α : Type} {f : α → V} {us : List α} (hp : SqL K H p (us.map f)) (k : ∀ r, H r = none → Q (.ref r) (upd H r (.lst ((cut us lo hi).map f)))) : rSlA K (.ref p) lo hi H Q :=
  .inl ⟨p, _, rfl, hp, fun r hr => by rw [cutV_map]; exact k r hr⟩
theorem w_slS (hl : z.length ≤ sizeLine) (k : Q (.str (cutS z lo hi)) H) : rSlA K (.str z) lo hi H Q := .inr (.inl ⟨z, rfl, hl, k⟩)
end
end Lk
namespace Lk
open PySem PySem.Spec PyProof.Rows L2

/-! ### for -/
/-- what is asked once the iterator J stands -/
def aLoop (J : It) (g : TG) (tb : TS) (D : Ends) (σ : St) (H1 : Hp) : Prop := ∃ W : Nat → Nat → St → Hp → Prop, (∃ m, W 0 m σ H1) ∧ ∀ i m σ H, W i m σ H →
  (J.stop i H ∧ D.nx σ H) ∨ (J.go i H ∧ ∃ N : St → Hp → Prop, (∀ σ' H', N σ' H' → ∃ m', m' < m ∧ W (i + 1) m' σ' H') ∧ ∀ x H', J.yld i H x H' → g x σ H' fun σ2 H2 => tb { D with nx := N, ct := N, bk := D.nx } σ2 H2)
def aRng1 (g : TG) (tb : TS) (D : Ends) (σ : St) (vs : List V) (H1 : Hp) : Prop := ∃ j : Int, vs = [.int j] ∧ -(2 ^ 62) ≤ j ∧ j < 2 ^ 62 ∧ aLoop (Itr 0 j.toNat) g tb D σ H1
def aRng2 (g : TG) (tb : TS) (D : Ends) (σ : St) (vs : List V) (H1 : Hp) : Prop := ∃ i j : Int, vs = [.int i, .int j] ∧ (-(2 ^ 62) ≤ i ∧ i < 2 ^ 62 ∧ -(2 ^ 62) ≤ j ∧ j < 2 ^ 62) ∧ aLoop (Itr i (j - i).toNat) g tb D σ H1
def aFList (K : PySem.W.Frag) (g : TG) (tb : TS) (D : Ends) (σ : St) (x : V) (H1 : Hp) : Prop := ∃ a, x = .ref a ∧ (∃ xs, SqL K H1 a xs) ∧ aLoop (Itl K a) g tb D σ H1
def aFEnum (K : PySem.W.Frag) (g : TG) (tb : TS) (D : Ends) (σ : St) (vs : List V) (H1 : Hp) : Prop := ∃ a xs, vs = [.ref a] ∧ SqL K H1 a xs ∧ aLoop (Ite K a) g tb D σ H1
section
variable {σ : St} {H : Hp} {D : Ends} {g : TG} {tb : TS} {ta : TA} {te : TE} {K : PySem.W.Frag}
theorem s_forR1 (k : ta σ H fun vs H1 => aRng1 g tb D σ vs H1) : tFor (iRng1 ta) g tb D σ H := k
theorem s_forR2 (k : ta σ H fun vs H1 => aRng2 g tb D σ vs H1) : tFor (iRng2 ta) g tb D σ H := k
theorem s_forL (k : te σ H fun x H1 => aFList K g tb D σ x H1) : tFor (iList K te) g tb D σ H := k
theorem s_forE (k : ta σ H fun vs H1 => aFEnum K g tb D σ vs H1) : tFor (iEnum K ta) g tb D σ H := k
variable {nx bk ct : St → Hp → Prop} {rt : VK} {j j' : Nat}
theorem w_rng1 {n : Int} (hn : n < 2 ^ 62 := by omega) (hn' : -(2 ^ 62) ≤ n := by omega) (Pv : Nat → St → Hp → Prop) (h0 : Pv 0 σ H)
    (hs : ∀ (i : Nat) σ' H', (i : Int) < n → Pv i σ' H' → tb ⟨Pv (i + 1), rt, nx, Pv (i + 1)⟩ (σ'.set j (some (.int (i : Int)))) H') (hd : ∀ σ' H', Pv n.toNat σ' H' → nx σ' H') : aRng1 (gName j) tb ⟨nx, rt, bk, ct⟩ σ [.int n] H :=
  ⟨n, rfl, hn', hn, for_range (lo := 0) (n := n.toNat) Pv h0 (fun i σ' H' hi p => by
    show tb ⟨Pv (i + 1), rt, nx, Pv (i + 1)⟩ (σ'.set j (some (.int ((0 : Int) + (i : Int))))) H'
    rw [Int.zero_add]
    exact hs i σ' H' (by omega) p) hd⟩
theorem w_rng2 {lo n : Int} (hl : -(2 ^ 62) ≤ lo := by omega) (hl' : lo < 2 ^ 62 := by omega) (hn : n < 2 ^ 62 := by omega) (hn' : -(2 ^ 62) ≤ n := by omega) (Pv : Nat → St → Hp → Prop) (h0 : Pv 0 σ H)
    (hs : ∀ (i : Nat) σ' H', lo + (i : Int) < n → Pv i σ' H' → tb ⟨Pv (i + 1), rt, nx, Pv (i + 1)⟩ (σ'.set j (some (.int (lo + (i : Int))))) H') (hd : ∀ σ' H', Pv (n - lo).toNat σ' H' → nx σ' H') : aRng2 (gName j) tb ⟨nx, rt, bk, ct⟩ σ [.int lo, .int n] H :=
  ⟨lo, n, rfl, ⟨hl, hl', hn', hn⟩, for_range (lo := lo) (n := (n - lo).toNat) Pv h0 (fun i σ' H' hi p => hs i σ' H' (by omega) p) hd⟩
/-- over a list that stands still; the item is f of us's -/
theorem w_forM {α : Type} {f : α → V} {us : List α} {p : Addr} (hp : H p = some (.lst (us.map f))) (Pv : Nat → St → Hp → Prop) (h0 : Pv 0 σ H) (hl : ∀ i σ' H', i ≤ us.length → Pv i σ' H' → H' p = some (.lst (us.map f)))
    (hs : ∀ (i : Nat) (u : α) σ' H', us[i]? = some u → Pv i σ' H' → g (f u) σ' H' fun σ2 H2 => tb ⟨Pv (i + 1), rt, nx, Pv (i + 1)⟩ σ2 H2) (hd : ∀ σ' H', Pv us.length σ' H' → nx σ' H') : aFList K g tb ⟨nx, rt, bk, ct⟩ σ (.ref p) H :=
  ⟨p, rfl, ⟨_, SqL.of hp⟩, for_list (K := K) (a := p) (xs := us.map f) Pv h0 (fun i σ' H' hi q => SqL.of (hl i σ' H' (by simpa using hi) q)) (fun i x σ' H' hx q => by
    rw [List.getElem?_map] at hx
    cases e : us[i]? with
    | none => rw [e] at hx; cases hx
    | some u =>
      rw [e] at hx
      cases hx
      exact hs i u σ' H' e q) (fun σ' H' q => hd σ' H' (by simpa using q))⟩
/-- a raw list -/
theorem w_forL {xs : List V} {p : Addr} (hp : H p = some (.lst xs)) (Pv : Nat → St → Hp → Prop) (h0 : Pv 0 σ H) (hl : ∀ i σ' H', i ≤ xs.length → Pv i σ' H' → H' p = some (.lst xs))
    (hs : ∀ (i : Nat) (u : V) σ' H', xs[i]? = some u → Pv i σ' H' → g u σ' H' fun σ2 H2 => tb ⟨Pv (i + 1), rt, nx, Pv (i + 1)⟩ σ2 H2) (hd : ∀ σ' H', Pv xs.length σ' H' → nx σ' H') : aFList K g tb ⟨nx, rt, bk, ct⟩ σ (.ref p) H :=
  ⟨p, rfl, ⟨_, SqL.of hp⟩, for_list (K := K) (a := p) (xs := xs) Pv h0 (fun i σ' H' hi q => SqL.of (hl i σ' H' hi q)) hs hd⟩
theorem for_enum {a : Addr} {xs : List V} (Pv : Nat → St → Hp → Prop) (h0 : Pv 0 σ H) (hl : ∀ i σ H, i ≤ xs.length → Pv i σ H → SqL K H a xs)
    (hs : ∀ i x T σ H, xs[i]? = some x → Pv i σ H → H T = none → g (.ref T) σ (upd H T (.tup [.int (i : Nat), x])) fun σ2 H2 => tb { D with nx := Pv (i + 1), ct := Pv (i + 1), bk := D.nx } σ2 H2) (hd : ∀ σ H, Pv xs.length σ H → D.nx σ H) : aLoop (Ite K a) g tb D σ H := by
  refine ⟨fun i m σ H => m = xs.length - i ∧ i ≤ xs.length ∧ Pv i σ H, ⟨xs.length, by simp, Nat.zero_le _, h0⟩, ?_⟩
  rintro i m σ H ⟨rfl, hi, p⟩
  have q := hl i σ H hi p
  by_cases hlt : i < xs.length
  · refine .inr ⟨⟨xs, xs[i], q, by simp [hlt]⟩, Pv (i + 1), fun σ' H' p' => ⟨xs.length - (i + 1), by omega, rfl, hlt, p'⟩, fun x H' y => ?_⟩
    obtain ⟨T, z, e1, e2, e3, y⟩ := y
    subst e1 e3
    exact hs i z T σ _ (y xs q) p e2
  · have e : i = xs.length := by omega
    subst e
    exact .inl ⟨⟨xs, q, Nat.le_refl _⟩, hd σ H p⟩
/-- for i, x in enumerate(xs), i in slot j, x in slot j' -/
theorem w_enumM {α : Type} {f : α → V} {us : List α} {p : Addr} (hp : H p = some (.lst (us.map f))) (Pv : Nat → St → Hp → Prop) (h0 : Pv 0 σ H) (hl : ∀ i σ' H', i ≤ us.length → Pv i σ' H' → H' p = some (.lst (us.map f)))
    (hs : ∀ (i : Nat) (u : α) (T : Addr) σ' H', us[i]? = some u → Pv i σ' H' → H' T = none → tb ⟨Pv (i + 1), rt, nx, Pv (i + 1)⟩ ((σ'.set j (some (.int (i : Int)))).set j' (some (f u))) (upd H' T (.tup [.int (i : Int), f u]))) (hd : ∀ σ' H', Pv us.length σ' H' → nx σ' H') :
    aFEnum K (gTup K 2 (gCons (gName j) (gCons (gName j') gNil))) tb ⟨nx, rt, bk, ct⟩ σ [.ref p] H :=
  ⟨p, _, rfl, SqL.of hp, for_enum (K := K) (a := p) (xs := us.map f) Pv h0 (fun i σ' H' hi q => SqL.of (hl i σ' H' (by simpa using hi) q)) (fun i x T σ' H' hx q hT => by
    rw [List.getElem?_map] at hx
    cases e : us[i]? with
    | none => rw [e] at hx; cases hx
    | some u =>
      rw [e] at hx
      cases hx
      exact ⟨T, _, rfl, .inl (.inl upd_same), rfl, _, _, rfl, _, _, rfl, rfl, hs i u T σ' H' e q hT⟩) (fun σ' H' q => hd σ' H' (by simpa using q))⟩

/-- the items of any kind, with any target for the item -/
theorem w_enumG {g : TG} {xs : List V} {p : Addr} (hp : H p = some (.lst xs)) (Pv : Nat → St → Hp → Prop) (h0 : Pv 0 σ H) (hl : ∀ i σ' H', i ≤ xs.length → Pv i σ' H' → H' p = some (.lst xs))
    (hs : ∀ (i : Nat) (u : V) (T : Addr) σ' H', xs[i]? = some u → Pv i σ' H' → H' T = none → g u (σ'.set j (some (.int (i : Int)))) (upd H' T (.tup [.int (i : Int), u])) fun σ2 H2 => gNil [] σ2 H2 fun σ3 H3 => tb ⟨Pv (i + 1), rt, nx, Pv (i + 1)⟩ σ3 H3) (hd : ∀ σ' H', Pv xs.length σ' H' → nx σ' H') :
    aFEnum K (gTup K 2 (gCons (gName j) (gCons g gNil))) tb ⟨nx, rt, bk, ct⟩ σ [.ref p] H :=
  ⟨p, _, rfl, SqL.of hp, for_enum (K := K) (a := p) (xs := xs) Pv h0 (fun i σ' H' hi q => SqL.of (hl i σ' H' hi q)) (fun i x T σ' H' hx q hT => by
    refine ⟨T, _, rfl, .inl (.inl upd_same), rfl, _, _, rfl, _, _, rfl, ?_⟩
    exact hs i x T σ' H' hx q hT) (fun σ' H' q => hd σ' H' q)⟩

theorem w_gTup {Q : St → Hp → Prop} {a : Addr} {xs : List V} {m : Nat} {t : TGs} (hp : H a = some (.tup xs)) (hl : xs.length = m) (k : t xs σ H Q) : gTup K m t (.ref a) σ H Q := ⟨a, xs, rfl, .inl (.inl hp), hl, k⟩
theorem w_gCons {Q : St → Hp → Prop} {v : V} {r : List V} {t : TG} {u : TGs} (k : t v σ H fun σ' H' => u r σ' H' Q) : gCons t u (v :: r) σ H Q := ⟨v, r, rfl, k⟩
theorem w_gNil {Q : St → Hp → Prop} (k : Q σ H) : gNil [] σ H Q := ⟨rfl, k⟩
/-! ### a cut: what follows is shown once -/
def tCut (t u : TS) : TS := fun D σ H => ∃ Mid : St → Hp → Prop, t { D with nx := Mid } σ H ∧ ∀ σ' H', Mid σ' H' → u D σ' H'
theorem pss_cut {X : Cx} {st : Stmt} {rest : List Stmt} {t u : TS} (h1 : PS X st t) (h2 : PSs X rest u) : PSs X (st :: rest) (tCut t u) := by
  refine ⟨fun pins s σ H D I h => ?_⟩
  obtain ⟨Mid, ht, hu⟩ := h
  refine wpAny_execs_cons (thn (h1.run pins s σ H { D with nx := Mid } I ht) fun f s1 q => ?_)
  cases f with
  | next =>
    obtain ⟨σ', H', I', q⟩ := q
    exact h2.run pins s1 σ' H' D I' (hu σ' H' q)
  | ret v => exact q
  | brk => exact q
  | cont => exact q
theorem s_cut {σ : St} {H : Hp} {ts us : TS} {nx bk ct : St → Hp → Prop} {rt : VK} (Mid : St → Hp → Prop) (h1 : ts ⟨Mid, rt, bk, ct⟩ σ H) (h2 : ∀ σ' H', Mid σ' H' → us ⟨nx, rt, bk, ct⟩ σ' H') : tCut ts us ⟨nx, rt, bk, ct⟩ σ H := ⟨Mid, h1, h2⟩
/-! ### while -/
/-- the turn, once the test has come out true -/
def aTurn (Pv : St → Hp → Prop) (μ : St → Hp → Nat) (m : Nat) (tb : TS) (rt : VK) (nx : St → Hp → Prop) (σ : St) (H : Hp) : Prop :=
  ∃ N : St → Hp → Prop, (∀ σ' H', N σ' H' → ∃ m', m' < m ∧ (Pv σ' H' ∧ μ σ' H' = m')) ∧ tb ⟨N, rt, nx, N⟩ σ H
theorem w_turn {Pv : St → Hp → Prop} {μ : St → Hp → Nat} {m : Nat} (k : tb ⟨fun σ' H' => Pv σ' H' ∧ μ σ' H' < m, rt, nx, fun σ' H' => Pv σ' H' ∧ μ σ' H' < m⟩ σ H) : aTurn Pv μ m tb rt nx σ H :=
  ⟨_, fun σ' H' q => ⟨_, q.2, q.1, rfl⟩, k⟩
theorem w_while {c : TT} (Pv : St → Hp → Prop) (μ : St → Hp → Nat) (h0 : Pv σ H) (hs : ∀ σ' H', Pv σ' H' → c σ' H' fun b H1 => if b = true then aTurn Pv μ (μ σ' H') tb rt nx σ' H1 else nx σ' H1) : tWhile c tb ⟨nx, rt, bk, ct⟩ σ H :=
  ⟨fun m σ H => Pv σ H ∧ μ σ H = m, ⟨_, h0, rfl⟩, fun m σ' H' hw => by
    obtain ⟨p, rfl⟩ := hw
    exact hs σ' H' p⟩
end

/-! ### list comprehensions -/
/-- behind a turn: the list at D -/
def cNx (H0 : Hp) (D : Addr) (acc : List V) : Hp → Prop := fun H => Kp [] H0 H ∧ H D = some (.lst acc)
/-- the kept item y goes to the list at D -/
def aKeep (H0 : Hp) (D : Addr) (acc' : List V) : VK := fun y H4 => ∃ acc, H4 D = some (.lst acc) ∧ acc.length < sizeLine ∧ cNx H0 D acc' (upd H4 D (.lst (acc ++ [y])))
section
variable {σ : St} {H : Hp} {g : TG} {tt : TT} {te : TE} {tl : TE} {ta : TA} {K : PySem.W.Frag} {vs : List Nat} {Q : VK}
def aComp (J : It) (g : TG) (tt : TT) (te : TE) (vs : List Nat) (σ : St) (Q : VK) (H1 : Hp) : Prop := ∀ D, H1 D = none → ∃ W : Nat → Nat → Hp → Prop, (∃ m, W 0 m (upd H1 D (.lst []))) ∧ ∀ i m H, W i m H →
  (J.stop i H ∧ Q (.ref D) H) ∨ (J.go i H ∧ ∃ Nx : Hp → Prop, (∀ H', Nx H' → ∃ m', m' < m ∧ W (i + 1) m' H') ∧ ∀ x H', J.yld i H x H' → g x (wipe σ vs) H' fun σ2 H2 => wipe σ2 vs = wipe σ vs ∧ tt σ2 H2 fun b H3 =>
    if b = true then te σ2 H3 fun y H4 => ∃ acc, H4 D = some (.lst acc) ∧ acc.length < sizeLine ∧ Nx (upd H4 D (.lst (acc ++ [y]))) else Nx H3)
def aCList (K : PySem.W.Frag) (g : TG) (tt : TT) (te : TE) (vs : List Nat) (σ : St) (Q : VK) (x : V) (H1 : Hp) : Prop := ∃ a, x = .ref a ∧ (∃ xs, SqL K H1 a xs) ∧ aComp (Itl K a) g tt te vs σ Q H1
def aCR1 (g : TG) (tt : TT) (te : TE) (vs : List Nat) (σ : St) (Q : VK) (us : List V) (H1 : Hp) : Prop := ∃ j : Int, us = [.int j] ∧ -(2 ^ 62) ≤ j ∧ j < 2 ^ 62 ∧ aComp (Itr 0 j.toNat) g tt te vs σ Q H1
def aCR2 (g : TG) (tt : TT) (te : TE) (vs : List Nat) (σ : St) (Q : VK) (us : List V) (H1 : Hp) : Prop := ∃ i j : Int, us = [.int i, .int j] ∧ (-(2 ^ 62) ≤ i ∧ i < 2 ^ 62 ∧ -(2 ^ 62) ≤ j ∧ j < 2 ^ 62) ∧ aComp (Itr i (j - i).toNat) g tt te vs σ Q H1
def aCEnum (K : PySem.W.Frag) (g : TG) (tt : TT) (te : TE) (vs : List Nat) (σ : St) (Q : VK) (us : List V) (H1 : Hp) : Prop := ∃ a xs, us = [.ref a] ∧ SqL K H1 a xs ∧ aComp (Ite K a) g tt te vs σ Q H1
theorem s_lcL (k : tl σ H fun x H1 => aCList K g tt te vs σ Q x H1) : tLc (iList K tl) g tt te vs σ H Q := k
theorem s_lcR1 (k : ta σ H fun us H1 => aCR1 g tt te vs σ Q us H1) : tLc (iRng1 ta) g tt te vs σ H Q := k
theorem s_lcR2 (k : ta σ H fun us H1 => aCR2 g tt te vs σ Q us H1) : tLc (iRng2 ta) g tt te vs σ H Q := k
theorem s_lcE (k : ta σ H fun us H1 => aCEnum K g tt te vs σ Q us H1) : tLc (iEnum K ta) g tt te vs σ H Q := k
theorem fm_snoc {α β : Type} (ψ : α → Option β) {us : List α} {i : Nat} {u : α} (h : us[i]? = some u) : (us.take (i + 1)).filterMap ψ = (us.take i).filterMap ψ ++ (ψ u).toList := by
  have e : us.take (i + 1) = us.take i ++ [u] := by
    rw [List.take_succ, h]; rfl
  rw [e, List.filterMap_append]
  cases q : ψ u <;> simp [List.filterMap_cons, q]
theorem fm_len {α β : Type} (ψ : α → Option β) (us : List α) : (us.filterMap ψ).length ≤ us.length := List.length_filterMap_le _ _
variable {α β : Type} {f : α → V} {f' : β → V}
theorem w_lcM (ψ : α → Option β) {us : List α} {p : Addr} (hp : H p = some (.lst (us.map f))) (hz : us.length < sizeLine)
    (hs : ∀ (D : Addr) (i : Nat) (u : α) (acc : List V) (H' : Hp), H D = none → us[i]? = some u → Kp [] H H' → H' D = some (.lst acc) → acc.length < sizeLine → g (f u) (wipe σ vs) H' fun σ2 H2 => wipe σ2 vs = wipe σ vs ∧ tt σ2 H2 fun b H3 =>
      if b = true then te σ2 H3 (aKeep H D (acc ++ (ψ u).toList.map f')) else cNx H D (acc ++ (ψ u).toList.map f') H3)
    (k : ∀ D H', H D = none → Kp [] H H' → H' D = some (.lst ((us.filterMap ψ).map f')) → Q (.ref D) H') : aCList K g tt te vs σ Q (.ref p) H :=
  ⟨p, rfl, ⟨_, SqL.of hp⟩, fun D hD => lc_list (K := K) (a := p) (xs := us.map f) (fun i => cNx H D (((us.take i).filterMap ψ).map f')) ⟨Kp.refl.new hD, upd_same⟩
    (fun i H' hi q => SqL.of (q.1.at0 hp)) (fun i x H' hx q => by
      rw [List.getElem?_map] at hx
      cases e : us[i]? with
      | none => rw [e] at hx; cases hx
      | some u =>
        rw [e] at hx
        cases hx
        have hl : i < us.length := (List.getElem?_eq_some_iff.mp e).1
        have hlen : (((us.take i).filterMap ψ).map f').length < sizeLine := by
          have := fm_len ψ (us.take i)
          rw [List.length_take] at this
          rw [List.length_map]
          omega
        have h := hs D i u _ H' hD e q.1 q.2 hlen
        have e2 : ((us.take (i + 1)).filterMap ψ).map f' = ((us.take i).filterMap ψ).map f' ++ (ψ u).toList.map f' := by rw [fm_snoc ψ e, List.map_append]
        rw [e2]
        exact h) (fun H' q => k D H' hD q.1 (by
          have := q.2
          rw [List.length_map, List.take_length] at this
          exact this))⟩
theorem w_lcR (ψ : Nat → Option β) {lo n : Int} (hl1 : -(2 ^ 62) ≤ lo) (hl2 : lo < 2 ^ 62) (hn1 : -(2 ^ 62) ≤ n) (hn2 : n < 2 ^ 62) (hz : (n - lo).toNat < sizeLine)
    (hs : ∀ (D : Addr) (i : Nat) (acc : List V) (H' : Hp), H D = none → lo + (i : Int) < n → Kp [] H H' → H' D = some (.lst acc) → acc.length < sizeLine → g (.int (lo + (i : Int))) (wipe σ vs) H' fun σ2 H2 => wipe σ2 vs = wipe σ vs ∧ tt σ2 H2 fun b H3 =>
      if b = true then te σ2 H3 (aKeep H D (acc ++ (ψ i).toList.map f')) else cNx H D (acc ++ (ψ i).toList.map f') H3)
    (k : ∀ D H', H D = none → Kp [] H H' → H' D = some (.lst (((List.range (n - lo).toNat).filterMap ψ).map f')) → Q (.ref D) H') : aComp (Itr lo (n - lo).toNat) g tt te vs σ Q H :=
  fun D hD => lc_range (lo := lo) (n := (n - lo).toNat) (fun i => cNx H D (((List.range i).filterMap ψ).map f')) ⟨Kp.refl.new hD, upd_same⟩ (fun i H' hi q => by
      have hlen : (((List.range i).filterMap ψ).map f').length < sizeLine := by
        have := fm_len ψ (List.range i)
        rw [List.length_range] at this
        rw [List.length_map]
        omega
      have h := hs D i _ H' hD (by omega) q.1 q.2 hlen
      have e2 : ((List.range (i + 1)).filterMap ψ).map f' = ((List.range i).filterMap ψ).map f' ++ (ψ i).toList.map f' := by
        rw [List.range_succ, List.filterMap_append, List.map_append]
        cases q : ψ i <;> simp [List.filterMap_cons, q]
      rw [e2]
      exact h) (fun H' q => k D H' hD q.1 q.2)
theorem w_lcR1 (ψ : Nat → Option β) {n : Int} (hn1 : -(2 ^ 62) ≤ n) (hn2 : n < 2 ^ 62) (hz : n.toNat < sizeLine)
    (hs : ∀ (D : Addr) (i : Nat) (acc : List V) (H' : Hp), H D = none → (i : Int) < n → Kp [] H H' → H' D = some (.lst acc) → acc.length < sizeLine → g (.int (i : Int)) (wipe σ vs) H' fun σ2 H2 => wipe σ2 vs = wipe σ vs ∧ tt σ2 H2 fun b H3 =>
      if b = true then te σ2 H3 (aKeep H D (acc ++ (ψ i).toList.map f')) else cNx H D (acc ++ (ψ i).toList.map f') H3)
    (k : ∀ D H', H D = none → Kp [] H H' → H' D = some (.lst (((List.range n.toNat).filterMap ψ).map f')) → Q (.ref D) H') : aCR1 g tt te vs σ Q [.int n] H := by
  have q := w_lcR (H := H) (g := g) (tt := tt) (te := te) (σ := σ) (vs := vs) (Q := Q) (f' := f') ψ (lo := 0) (n := n) (by omega) (by omega) hn1 hn2 (by simpa using hz) (fun D i acc H' h1 h2 h3 h4 h5 => by
    rw [Int.zero_add]
    exact hs D i acc H' h1 (by omega) h3 h4 h5) (by simpa using k)
  exact ⟨n, rfl, hn1, hn2, by simpa using q⟩
theorem w_lcR2 (ψ : Nat → Option β) {lo n : Int} (hl1 : -(2 ^ 62) ≤ lo) (hl2 : lo < 2 ^ 62) (hn1 : -(2 ^ 62) ≤ n) (hn2 : n < 2 ^ 62) (hz : (n - lo).toNat < sizeLine)
    (hs : ∀ (D : Addr) (i : Nat) (acc : List V) (H' : Hp), H D = none → lo + (i : Int) < n → Kp [] H H' → H' D = some (.lst acc) → acc.length < sizeLine → g (.int (lo + (i : Int))) (wipe σ vs) H' fun σ2 H2 => wipe σ2 vs = wipe σ vs ∧ tt σ2 H2 fun b H3 =>
      if b = true then te σ2 H3 (aKeep H D (acc ++ (ψ i).toList.map f')) else cNx H D (acc ++ (ψ i).toList.map f') H3)
    (k : ∀ D H', H D = none → Kp [] H H' → H' D = some (.lst (((List.range (n - lo).toNat).filterMap ψ).map f')) → Q (.ref D) H') : aCR2 g tt te vs σ Q [.int lo, .int n] H :=
  ⟨lo, n, rfl, ⟨hl1, hl2, hn1, hn2⟩, w_lcR ψ hl1 hl2 hn1 hn2 hz hs k⟩
/-- the item is kept -/
theorem w_keep {D : Addr} {acc : List V} {o : Option β} {b : β} {H4 : Hp} (hk : Kp [] H H4) (hD : H4 D = some (.lst acc)) (hl : acc.length < sizeLine) (hn : H D = none) (e : o = some b) : aKeep H D (acc ++ o.toList.map f') (f' b) H4 := by
  subst e
  exact ⟨acc, hD, hl, hk.own hn, upd_same⟩
theorem w_drop {D : Addr} {acc : List V} {o : Option β} {H4 : Hp} (hk : Kp [] H H4) (hD : H4 D = some (.lst acc)) (e : o = none) : cNx H D (acc ++ o.toList.map f') H4 := by
  subst e
  exact ⟨hk, by simpa using hD⟩
/-- behind a turn of a comprehension whose turns change other things, too -/
def gNx (ms : List Addr) (H0 : Hp) (D : Addr) (J : Nat → List V → Hp → Prop) (i : Nat) (H : Hp) : Prop := ∃ acc : List V, acc.length ≤ i ∧ Kp ms H0 H ∧ H D = some (.lst acc) ∧ J i acc H
def gKeep (ms : List Addr) (H0 : Hp) (D : Addr) (J : Nat → List V → Hp → Prop) (i : Nat) : VK := fun y H4 => ∃ acc, H4 D = some (.lst acc) ∧ acc.length < sizeLine ∧ gNx ms H0 D J i (upd H4 D (.lst (acc ++ [y])))
theorem w_lcRG {lo n : Int} (ms : List Addr) (J : Addr → Nat → List V → Hp → Prop)
    (h0 : ∀ D, H D = none → J D 0 [] (upd H D (.lst [])))
    (hs : ∀ (D : Addr) (i : Nat) (acc : List V) (H' : Hp), H D = none → lo + (i : Int) < n → acc.length ≤ i → Kp ms H H' → H' D = some (.lst acc) → J D i acc H' → g (.int (lo + (i : Int))) (wipe σ vs) H' fun σ2 H2 => wipe σ2 vs = wipe σ vs ∧ tt σ2 H2 fun b H3 =>
      if b = true then te σ2 H3 (gKeep ms H D (J D) (i + 1)) else gNx ms H D (J D) (i + 1) H3)
    (k : ∀ D acc H', H D = none → acc.length ≤ (n - lo).toNat → Kp ms H H' → H' D = some (.lst acc) → J D (n - lo).toNat acc H' → Q (.ref D) H') : aComp (Itr lo (n - lo).toNat) g tt te vs σ Q H :=
  fun D hD => lc_range (lo := lo) (n := (n - lo).toNat) (fun i => gNx ms H D (J D) i) ⟨[], Nat.zero_le _, Kp.refl.new hD, upd_same, h0 D hD⟩ (fun i H' hi q => by
      obtain ⟨acc, q1, q2, q3, q4⟩ := q
      exact hs D i acc H' hD (by omega) q1 q2 q3 q4) (fun H' q => by
      obtain ⟨acc, q1, q2, q3, q4⟩ := q
      exact k D acc H' hD q1 q2 q3 q4)
theorem w_lcRG2 {lo n : Int} (ms : List Addr) (J : Addr → Nat → List V → Hp → Prop) (hl1 : -(2 ^ 62) ≤ lo) (hl2 : lo < 2 ^ 62) (hn1 : -(2 ^ 62) ≤ n) (hn2 : n < 2 ^ 62)
    (h0 : ∀ D, H D = none → J D 0 [] (upd H D (.lst [])))
    (hs : ∀ (D : Addr) (i : Nat) (acc : List V) (H' : Hp), H D = none → lo + (i : Int) < n → acc.length ≤ i → Kp ms H H' → H' D = some (.lst acc) → J D i acc H' → g (.int (lo + (i : Int))) (wipe σ vs) H' fun σ2 H2 => wipe σ2 vs = wipe σ vs ∧ tt σ2 H2 fun b H3 =>
      if b = true then te σ2 H3 (gKeep ms H D (J D) (i + 1)) else gNx ms H D (J D) (i + 1) H3)
    (k : ∀ D acc H', H D = none → acc.length ≤ (n - lo).toNat → Kp ms H H' → H' D = some (.lst acc) → J D (n - lo).toNat acc H' → Q (.ref D) H') : aCR2 g tt te vs σ Q [.int lo, .int n] H :=
  ⟨lo, n, rfl, ⟨hl1, hl2, hn1, hn2⟩, w_lcRG ms J h0 hs k⟩
theorem w_lcRG1 {n : Int} (ms : List Addr) (J : Addr → Nat → List V → Hp → Prop) (hn1 : -(2 ^ 62) ≤ n) (hn2 : n < 2 ^ 62)
    (h0 : ∀ D, H D = none → J D 0 [] (upd H D (.lst [])))
    (hs : ∀ (D : Addr) (i : Nat) (acc : List V) (H' : Hp), H D = none → (i : Int) < n → acc.length ≤ i → Kp ms H H' → H' D = some (.lst acc) → J D i acc H' → g (.int (i : Int)) (wipe σ vs) H' fun σ2 H2 => wipe σ2 vs = wipe σ vs ∧ tt σ2 H2 fun b H3 =>
      if b = true then te σ2 H3 (gKeep ms H D (J D) (i + 1)) else gNx ms H D (J D) (i + 1) H3)
    (k : ∀ D acc H', H D = none → acc.length ≤ n.toNat → Kp ms H H' → H' D = some (.lst acc) → J D n.toNat acc H' → Q (.ref D) H') : aCR1 g tt te vs σ Q [.int n] H := by
  have q := w_lcRG (H := H) (g := g) (tt := tt) (te := te) (σ := σ) (vs := vs) (Q := Q) (lo := 0) (n := n) ms J h0 (fun D i acc H' h1 h2 h3 h4 h5 h6 => by
    rw [Int.zero_add]
    exact hs D i acc H' h1 (by omega) h3 h4 h5 h6) (by simpa using k)
  exact ⟨n, rfl, hn1, hn2, by simpa using q⟩
theorem w_keepG {ms : List Addr} {J : Nat → List V → Hp → Prop} {D : Addr} {acc : List V} {i : Nat} {y : V} {H4 : Hp} (hk : Kp ms H H4) (hD : H4 D = some (.lst acc)) (hl : acc.length ≤ i) (hz : i < sizeLine) (hn : H D = none) (j : J (i + 1) (acc ++ [y]) (upd H4 D (.lst (acc ++ [y])))) : gKeep ms H D J (i + 1) y H4 :=
  ⟨acc, hD, by omega, acc ++ [y], by rw [List.length_append]; simpa using hl, hk.own hn, upd_same, j⟩
theorem w_dropG {ms : List Addr} {J : Nat → List V → Hp → Prop} {D : Addr} {acc : List V} {i : Nat} {H4 : Hp} (hk : Kp ms H H4) (hD : H4 D = some (.lst acc)) (hl : acc.length ≤ i) (j : J (i + 1) acc H4) : gNx ms H D J (i + 1) H4 :=
  ⟨acc, by omega, hk, hD, j⟩
theorem s_yes {Q : Bool → Hp → Prop} (k : Q true H) : tYes σ H Q := k
theorem fm_some {h : α → β} {us : List α} : us.filterMap (fun u => some (h u)) = us.map h := by
  rw [← List.filterMap_eq_map]; rfl
end

/-! ### try, except -/
section
variable {K : PySem.W.Frag} {c cls : Value} {d : Option Addr} {i : Nat} {ts : Addr → Value → Option Addr → TS} {Wout : WX} {nx bk ct : St → Hp → Prop} {rt : VK} {σ : St} {H : Hp}
theorem w_asT (e : PySem.W.exmOne K cls c = some true) (k : ∀ a, H a = none → ts a cls d ⟨fun σ' H' => nx (σ'.set i none) H', rt, fun σ' H' => bk (σ'.set i none) H', fun σ' H' => ct (σ'.set i none) H'⟩ (σ.set i (some (.ref a))) H) : wAs K c i ts Wout ⟨nx, rt, bk, ct⟩ cls d σ H :=
  ⟨true, e, fun _ => k, fun q => Bool.noConfusion q⟩
theorem w_asF {D : Ends} (e : PySem.W.exmOne K cls c = some false) (k : Wout cls d σ H) : wAs K c i ts Wout D cls d σ H :=
  ⟨false, e, fun q => Bool.noConfusion q, fun _ => k⟩
/-- e.f, e the caught exception at a, of the class cls, its dict d -/
def tXfG (K : PySem.W.Frag) (a : Addr) (cls : Value) (d : Option Addr) (f : Str) (te : TE) : TE := fun σ H Q => te σ H fun x H1 => x = .ref a ∧ ∃ (C dd : Addr) (fs : List (Str × V)) (v : V), cls = .ref C ∧ d = some dd ∧ XfC K C ∧ PySem.W.findIn K (.ref C) f = some none ∧ H1 dd = some (.xd fs) ∧ fs.lookup f = some v ∧ Q v H1
theorem pe_xfG {X : Cx} {a : Addr} {oe : Obj} {cls : Value} {d : Option Addr} {pn : List (Addr × Obj)} {e : Expr} {te : TE} {pos : Pos} {n : Str}
    (hz : Zc cls d oe) (hf : ∃ vs, oe.data = .fields vs) (he : PE (X.suite a ((a, oe) :: pn)) e te) (hb : attributeBase e n X.env (eval e X.env) = eval e X.env := by rfl) :
    PE (X.suite a ((a, oe) :: pn)) (.Attribute e n pos) (tXfG X.K a cls d n te) := by
  refine ⟨fun pins s σ H Q I h => ?_⟩
  refine attr_of hb (thn (he.run pins s σ H _ I h) fun u s1 hh => ?_)
  obtain ⟨x, H1, I1, rx, ex, C, dd, fs, v, ec, ed, T, hno, ea, l, q⟩ := hh
  subst ex
  obtain rfl : u = Value.ref a := rx
  subst ec
  subst ed
  obtain ⟨ha, _⟩ := I1.pin (a, oe) (List.mem_append_left _ List.mem_cons_self)
  obtain ⟨vs, hd⟩ := hf
  have hx : ObjOk X.prog X.w H1 s1.heap dd (.xd fs) := I1.hok dd _ ea
  obtain ⟨mA, hns, hr⟩ := hx
  obtain ⟨od, ho, hl⟩ := lookIn_ns hns
  obtain ⟨u, hu, ru⟩ := RelO.some_of (v := v) (o := mA n) (by rw [← l]; exact hr n)
  have J : PySem.W.InstAt s1.heap a oe C (some od) := ⟨ha, hz.1, by unfold PySem.W.notCls; rw [hd] <;> rfl, by rw [hz.2]; exact ho⟩
  exact HandSPX.exc_get I1.kIn J T.ga T.gg T.exC (PySem.W.findObj_own T.hdC hno rfl (by rw [hl, hu])) (handed_of ru) ⟨v, H1, I1.tok _, ru, q⟩
/-- isinstance(e, C) of the caught exception -/
def rIsG (K : PySem.W.Frag) (a : Addr) (cls : Value) (d : Option Addr) : List V → Hp → VK → Prop := fun xs H Q => ∃ (C dd : Addr) (fs : List (Str × V)) (c : V) (cv : Value) (b : Bool), xs = [.ref a, c] ∧ cls = .ref C ∧ d = some dd ∧ H dd = some (.xd fs) ∧ ExcC K C ∧ ClsV c cv ∧ PySem.W.kitOne K (.ref C) cv = some b ∧ Q (.bl b) H
theorem call_isG {X : Cx} {a : Addr} {oe : Obj} {cls : Value} {d : Option Addr} {pn : List (Addr × Obj)} (hz : Zc cls d oe) (hf : ∃ vs, oe.data = .fields vs) : CallR (X.suite a ((a, oe) :: pn)) (.builtin "isinstance") (rIsG X.K a cls d) := by
  intro pins s σ H xs us Q I r h
  obtain ⟨C, dd, fs, c, cv, b, rfl, rfl, rfl, hdd, E, hcv, e, q⟩ := h
  obtain ⟨u1, u2, rfl, r1, r2⟩ := vals2 r
  have e2 := hcv.eq r2
  subst e2
  cases r1
  obtain ⟨ha, _⟩ := I.pin (a, oe) (List.mem_append_left _ List.mem_cons_self)
  obtain ⟨vs, hd⟩ := hf
  have hx : ObjOk X.prog X.w H s.heap dd (.xd fs) := I.hok dd _ hdd
  obtain ⟨mA, hns, hr⟩ := hx
  obtain ⟨od, ho, hl⟩ := lookIn_ns hns
  have J : PySem.W.InstAt s.heap a oe C (some od) := ⟨ha, hz.1, by unfold PySem.W.notCls; rw [hd] <;> rfl, by rw [hz.2]; exact ho⟩
  have hcl : (PySem.W.clsIn X.K C).isSome = true := by
    obtain ⟨cd, hc, _⟩ := PySem.W.any_some E.hd
    rw [hc]; rfl
  exact PySem.W.kia_one (PySem.W.kitx_exc hcl E.hg E.hk E.hs E.ha E.hn E.ht E.hm) I.kIn J e (fun z => nomatch z) fun tk => ⟨.bl b, H, I.kept (t' := tk) fun _ _ z => z, rfl, q⟩
end
/-- in the suite: the exception that is handled has no context -/
theorem hot_suite {X : Cx} {a : Addr} {oe : Obj} {cls : Value} {d : Option Addr} {pn : List (Addr × Obj)} (hz : L2N.Zn cls d oe) (hf : ∃ vs, oe.data = .fields vs) : L2H.HotC (X.suite a ((a, oe) :: pn)) := by
  obtain ⟨vs, hd⟩ := hf
  exact ⟨(a, oe), ⟨rfl, vs, hd, hz.2.2 vs hd⟩, List.mem_cons_self⟩
end Lk
namespace Lk
open PySem PySem.Spec PyProof.Rows L2

/-! ### a op b op c op d -/
def tChain3 (r r' r'' : R2) (ta tb tc td : TE) : TE := fun σ H Q => ta σ H fun x H1 => tb σ H1 fun y H2 => r x y H2 fun z H3 => aB z H3 fun k H3 =>
  if k = true then tc σ H3 fun w' H4 => r' y w' H4 fun z H5 => aB z H5 fun k H5 => if k = true then td σ H5 fun v' H6 => r'' w' v' H6 Q else Q (.bl false) H5 else Q (.bl false) H3
theorem s_chain3 {σ : St} {H : Hp} {Q : VK} {r r' r'' : R2} {ta tb tc td : TE} (k : ta σ H fun x H1 => tb σ H1 fun y H2 => r x y H2 fun z H3 => aB z H3 fun k H3 =>
  if k = true then tc σ H3 fun w' H4 => r' y w' H4 fun z H5 => aB z H5 fun k H5 => if k = true then td σ H5 fun v' H6 => r'' w' v' H6 Q else Q (.bl false) H5 else Q (.bl false) H3) : tChain3 r r' r'' ta tb tc td σ H Q := k
theorem pt_chain3A {X : Cx} {op op' op'' : CmpOp} {r r' r'' : R2} {e1 e2 e3 e4 : Expr} {ta tb tc td : TE} {pos : Pos} (ho : OpR X (compareOp op) r) (ho' : OpR X (compareOp op') r') (ho'' : OpR X (compareOp op'') r'') (ha : PE X e1 ta) (hb : PE X e2 tb) (hc : PE X e3 tc) (hd : PE X e4 td)
    (hm : lastMarks [op, op', op''] [e2, e3, e4] = false := by with_unfolding_all rfl) : PT X (.Compare e1 [op, op', op''] [e2, e3, e4] pos) (cB (tChain3 r r' r'' ta tb tc td)) := by
  refine ⟨fun pins s σ H Q I h => ?_⟩
  refine isTrue_chain (thn (ha.run pins s σ H _ I h) fun v s1 ⟨x, H1, I1, r1, q1⟩ => test_link (thn (hb.run pins s1 σ H1 _ I1 q1) fun u s2 ⟨y, H2, I2, r2, q2⟩ =>
    thn (ho pins s2 σ H2 x y v u _ I2 r1 r2 q2) fun d s3 ⟨z, H3, I3, r3, k, e, q3⟩ => ?_)) hm
  subst e
  cases r3
  refine wpAny_truthy_bool ?_
  cases k with
  | false =>
    obtain ⟨k', e', q'⟩ := q3
    cases e'
    exact ite_ff ⟨H3, I3, q'⟩
  | true =>
    refine ite_tt (test_link (thn (hc.run pins s3 σ H3 _ I3 q3) fun w' s4 ⟨z', H4, I4, r4, q4⟩ => thn (ho' pins s4 σ H4 y z' u w' _ I4 r2 r4 q4) fun d' s5 ⟨z2, H5, I5, r5, k2, e2, q5⟩ => ?_))
    subst e2
    cases r5
    refine wpAny_truthy_bool ?_
    cases k2 with
    | false =>
      obtain ⟨k', e', q'⟩ := q5
      cases e'
      exact ite_ff ⟨H5, I5, q'⟩
    | true =>
      refine ite_tt (test_last (thn (hd.run pins s5 σ H5 _ I5 q5) fun w6 s6 ⟨z6, H6, I6, r6, q6⟩ => thn (ho'' pins s6 σ H6 z' z6 w' w6 _ I6 r4 r6 q6) fun d7 s7 ⟨z7, H7, I7, r7, k7, e7, q7⟩ => ?_))
      subst e7
      cases r7
      exact wpAny_truthy_bool ⟨H7, I7, q7⟩

theorem roomH_units {k : Nat} {A : Around} (r : L2H.RoomH k A) : A.units + 64 < cLine := by have := r.un; omega
theorem roomH_s {j k : Nat} {A A' : Around} (r : L2H.RoomH j A) (h : k ≤ j) (e1 : A'.depth = A.depth) (e2 : A'.units = A.units) : L2H.RoomH k A' :=
  ⟨by have := r.dp; omega, by have := r.un; omega⟩
/-! ### addresses -/
theorem ne_n {H : Hp} {a b : Addr} {o : HO} (h' : H b = none) (h : H a = some o) : a ≠ b := ne_of_none h h'
theorem ne_n' {H : Hp} {a b : Addr} {o : HO} (h' : H a = none) (h : H b = some o) : a ≠ b := Ne.symm (ne_of_none h h')
theorem upd_new {H : Hp} {p a : Addr} {o u : HO} (n : H p = none) (h : H a = some u) : upd H p o a = some u := upd_get (ne_of_none h n) h
/-- another kind of thing was at p -/
theorem upd_kind {H : Hp} {p a : Addr} {o u u' : HO} (hp : H p = some u') (h : H a = some u) (n : u ≠ u') : upd H p o a = some u := upd_get (ne_of h hp n) h
/-! ### members -/
section
variable {i : Int} {p : Addr} {H : Hp} {Q : VK} {us : List Int} {K : PySem.W.Frag}
theorem eqV_int (a b : Int) : eqV (.int a) (.int b) = decide (a = b) := by
  have : eqV (.int a) (.int b) = (a == b) := rfl
  rw [this]; rfl
theorem inV_int : ∀ us : List Int, inV (.int i) (us.map V.int) = decide (i ∈ us)
  | [] => by simp [inV]
  | u :: us => by
    have h := inV_int us
    unfold inV at h ⊢
    rw [List.map_cons, List.any_cons, h, eqV_int]
    by_cases z : u = i
    · simp [z]
    · have z2 : ¬ i = u := fun q => z q.symm
      simp [z, z2]
theorem flat_int : ∀ us : List Int, (us.map V.int).all flatV = true
  | [] => rfl
  | u :: us => by rw [List.map_cons, List.all_cons, flat_int us]; rfl
theorem w_inI (hp : H p = some (.lst (us.map V.int))) (k : Q (.bl (decide (i ∈ us))) H) : rIn K false (.int i) (.ref p) H Q :=
  ⟨p, _, rfl, .inl (SqL.of hp), rfl, flat_int us, by rw [inV_int]; exact k⟩
theorem w_notInI (hp : H p = some (.lst (us.map V.int))) (k : Q (.bl (!decide (i ∈ us))) H) : rIn K true (.int i) (.ref p) H Q :=
  ⟨p, _, rfl, .inl (SqL.of hp), rfl, flat_int us, by rw [inV_int]; exact k⟩
theorem w_eqLI' {ns ms : List Int} {q : Addr} (hp : H p = some (.lst (ns.map V.int))) (hq : H q = some (.lst (ms.map V.int))) (k : Q (.bl (decide (ns = ms))) H) : aEq K (.ref p) (.ref q) H Q := w_eqLI (SqL.of hp) (SqL.of hq) k
theorem w_eqLI0 {ns : List Int} {q : Addr} (hp : H p = some (.lst (ns.map V.int))) (hq : H q = some (.lst [])) (k : Q (.bl (decide (ns = []))) H) : aEq K (.ref p) (.ref q) H Q := w_eqLI (ms := []) (SqL.of hp) (SqL.of hq) k
theorem w_neLI' {ns ms : List Int} {q : Addr} (hp : H p = some (.lst (ns.map V.int))) (hq : H q = some (.lst (ms.map V.int))) (k : Q (.bl (!decide (ns = ms))) H) : aNe K (.ref p) (.ref q) H Q := w_neLI (SqL.of hp) (SqL.of hq) k
theorem w_neLI0 {ns : List Int} {q : Addr} (hp : H p = some (.lst (ns.map V.int))) (hq : H q = some (.lst [])) (k : Q (.bl (!decide (ns = []))) H) : aNe K (.ref p) (.ref q) H Q := w_neLI (ms := []) (SqL.of hp) (SqL.of hq) k
end
/-! ### raise -/
theorem s_mkx {C : Addr} {fs : List Str} {ta : TA} {σ : St} {H : Hp} {Q : XK} (k : ta σ H fun vs H1 => vs.length = fs.length ∧ ∀ d, H1 d = none → Q (.ref C) (some d) (upd H1 d (.xd (fs.zip vs)))) : tMkX C fs ta σ H Q := k
theorem w_and {A B : Prop} (a : A) (b : B) : A ∧ B := ⟨a, b⟩
theorem s_xf {K : PySem.W.Frag} {a : Addr} {cls : Value} {d : Option Addr} {f : Str} {te : TE} {σ : St} {H : Hp} {Q : VK} (k : te σ H fun x H1 => x = .ref a ∧ ∃ (C dd : Addr) (fs : List (Str × V)) (v : V), cls = .ref C ∧ d = some dd ∧ XfC K C ∧ PySem.W.findIn K (.ref C) f = some none ∧ H1 dd = some (.xd fs) ∧ fs.lookup f = some v ∧ Q v H1) : tXfG K a cls d f te σ H Q := k
/-- the exception's field -/
def aXf (K : PySem.W.Frag) (a : Addr) (C : Addr) (dd : Addr) (f : Str) (Q : VK) : VK := fun x H1 => x = .ref a ∧ ∃ (fs : List (Str × V)) (v : V), XfC K C ∧ PySem.W.findIn K (.ref C) f = some none ∧ H1 dd = some (.xd fs) ∧ fs.lookup f = some v ∧ Q v H1
theorem s_xfR {K : PySem.W.Frag} {a C dd : Addr} {f : Str} {te : TE} {σ : St} {H : Hp} {Q : VK} (k : te σ H (aXf K a C dd f Q)) : tXfG K a (.ref C) (some dd) f te σ H Q := by
  have e : (fun x H1 => x = V.ref a ∧ ∃ (C' dd' : Addr) (fs : List (Str × V)) (v : V), Value.ref C = .ref C' ∧ some dd = some dd' ∧ XfC K C' ∧ PySem.W.findIn K (.ref C') f = some none ∧ H1 dd' = some (.xd fs) ∧ fs.lookup f = some v ∧ Q v H1) = aXf K a C dd f Q := by
    funext x H1
    apply propext
    constructor
    · rintro ⟨e, C', dd', fs, v, h1, h2, h3⟩
      cases h1
      cases h2
      exact ⟨e, fs, v, h3⟩
    · rintro ⟨e, fs, v, h3⟩
      exact ⟨e, C, dd, fs, v, rfl, rfl, h3⟩
  unfold tXfG
  rw [e]
  exact k
theorem w_xf {K : PySem.W.Frag} {a C dd : Addr} {f : Str} {H : Hp} {Q : VK} {fs : List (Str × V)} {v : V} (hd : H dd = some (.xd fs)) (hC : XfC K C) (hn : PySem.W.findIn K (.ref C) f = some none) (hl : fs.lookup f = some v) (k : Q v H) : aXf K a C dd f Q (.ref a) H := ⟨rfl, fs, v, hC, hn, hd, hl, k⟩
theorem w_isG {K : PySem.W.Frag} {a C D dd : Addr} {H : Hp} {Q : VK} {fs : List (Str × V)} {b : Bool} (hd : H dd = some (.xd fs)) (E : ExcC K C) (e : PySem.W.kitOne K (.ref C) (.ref D) = some b) (k : Q (.bl b) H) : rIsG K a (.ref C) (some dd) [.ref a, .ref D] H Q :=
  ⟨C, dd, fs, _, _, b, rfl, rfl, rfl, hd, E, .own D, e, k⟩
theorem w_isGv {K : PySem.W.Frag} {a C dd : Addr} {n : String} {H : Hp} {Q : VK} {fs : List (Str × V)} {b : Bool} (hd : H dd = some (.xd fs)) (E : ExcC K C) (e : PySem.W.kitOne K (.ref C) (.type n) = some b) (k : Q (.bl b) H) : rIsG K a (.ref C) (some dd) [.ref a, .ty n] H Q :=
  ⟨C, dd, fs, _, _, b, rfl, rfl, rfl, hd, E, .ty n, e, k⟩

/-! ### lists of pairs of ints -/
/-- xs holds, one by one, tuples of the pairs ps -/
inductive Prs (H : Hp) : List V → List (Int × Int) → Prop
  | nil : Prs H [] []
  | cons {r xs i j ps} : H r = some (.tup [.int i, .int j]) → Prs H xs ps → Prs H (.ref r :: xs) ((i, j) :: ps)
theorem Prs.kp {H H' : Hp} {xs : List V} {ps : List (Int × Int)} (h : Prs H xs ps) (k : ∀ a o, (∃ i j, o = HO.tup [.int i, .int j]) → H a = some o → H' a = some o) : Prs H' xs ps := by
  induction h with
  | nil => exact .nil
  | cons h1 _ ih => exact .cons (k _ _ ⟨_, _, rfl⟩ h1) ih
theorem Prs.len {H : Hp} {xs : List V} {ps : List (Int × Int)} (h : Prs H xs ps) : xs.length = ps.length := by
  induction h with
  | nil => rfl
  | cons _ _ ih => simp [ih]
theorem Prs.snoc {H : Hp} {xs : List V} {ps : List (Int × Int)} {r : Addr} {i j : Int} (h : Prs H xs ps) (e : H r = some (.tup [.int i, .int j])) : Prs H (xs ++ [.ref r]) (ps ++ [(i, j)]) := by
  induction h with
  | nil => exact .cons e .nil
  | cons h1 _ ih => exact .cons h1 ih
theorem Prs.get {H : Hp} {xs : List V} {ps : List (Int × Int)} (h : Prs H xs ps) : ∀ {k : Nat} {p : Int × Int}, ps[k]? = some p → ∃ r, xs[k]? = some (.ref r) ∧ H r = some (.tup [.int p.1, .int p.2]) := by
  induction h with
  | nil => intro k p e; simp at e
  | cons h1 _ ih =>
    intro k p e
    cases k with
    | zero => simp at e; subst e; exact ⟨_, rfl, h1⟩
    | succ k => simpa using ih (by simpa using e)
theorem Prs.new {H : Hp} {xs : List V} {ps : List (Int × Int)} {p : Addr} {o : HO} (h : Prs H xs ps) (hp : H p = none) : Prs (upd H p o) xs ps := h.kp fun a u _ e => by rw [upd_ne (ne_of_none e hp)]; exact e
/-- a list is changed -/
theorem Prs.mut {H : Hp} {xs ys : List V} {ps : List (Int × Int)} {p : Addr} {o : HO} (h : Prs H xs ps) (hp : H p = some (.lst ys)) : Prs (upd H p o) xs ps := h.kp fun a u z e => by
  obtain ⟨i, j, rfl⟩ := z
  rw [upd_ne (ne_of e hp (by intro q; cases q))]; exact e
theorem Prs.kp0 {H H' : Hp} {xs : List V} {ps : List (Int × Int)} (h : Prs H xs ps) (k : Kp [] H H') : Prs H' xs ps := h.kp fun a o _ e => k a o e List.not_mem_nil
theorem Prs.nilI {H : Hp} : Prs H [] [] := .nil
end Lk
namespace Lk
open PySem PySem.W PySem.Spec PyProof.Rows L2
theorem noCX {P : Program} (w : World) (H : L2.Hp) (s : Shared) (e : Value) (s' : Shared) (h : L2N.CX P w [] H s (fun _ _ _ => False) e s') : False := by
  obtain ⟨_, _, _, _, _, _, _, _, _, _, _, _, z⟩ := h
  exact z
section
variable {P : Program} {w : World} {K : Frag} {mg : Str → Option Value} {base : Heap}
theorem FnOk_of {x qual : Str} {st : Stmt} {f : Addr} {fd : FuncData} {N ps : List Str} {k : Nat} {sp : L2.Sp} (F : L2.Fun K x qual st f fd) (S : L2.FnScope N ps (L2.defScope st)) (len : ∀ vs H Q E, sp vs H Q E → vs.length = ps.length)
    (hbody : ∀ (cdv : Value) (A : Around) (outer : List Env) (s : Shared) (H : L2.Hp) (vs : List L2.V) (Q : L2.VK) (E : L2.XK), L2.Room k (A.deeper (envOfC qual (L2.defScope st) s.heap.objs.size f cdv)) → L2N.Takes (L2.cxOf (L2N.CX P w) P w K mg base N qual (L2.defScope st) f cdv A outer s H E) (fun cls d _ H' => E cls d H') →
      PassesOwn (model P w) (L2.cxOf (L2N.CX P w) P w K mg base N qual (L2.defScope st) f cdv A outer s H E).A (L2.cxOf (L2N.CX P w) P w K mg base N qual (L2.defScope st) f cdv A outer s H E).env (L2.cxOf (L2N.CX P w) P w K mg base N qual (L2.defScope st) f cdv A outer s H E).xe → sp vs H Q E →
      ∃ t, L2.PSs (L2.cxOf (L2N.CX P w) P w K mg base N qual (L2.defScope st) f cdv A outer s H E) (L2.defBody st) t ∧ t { nx := fun _ H' => Q .non H', rt := Q } (L2.start N vs) H) : L2.FnOk P w K mg base (L2N.CX P w) (k + 1) f fd ps sp := by
  obtain ⟨oc, od, kV, doc, pm, an, cdv, ct, osl, rfl, lk, hcd⟩ := F.ex
  exact L2.fn_of lk hcd S len fun A outer s H vs Q E hr hsp => hbody cdv A outer s H vs Q E hr (L2N.takes_of rfl rfl rfl rfl) (passes_of rfl) hsp
end
/-- facts of all of a list's members -/
def AllIn (K : Frag) (C : Addr) : List Str → Prop
  | [] => True
  | f :: fs => findIn K (.ref C) f = some none ∧ AllIn K C fs
theorem all_in {K : Frag} {C : Addr} : ∀ {fs : List Str}, AllIn K C fs → ∀ f ∈ fs, findIn K (.ref C) f = some none
  | [], _ => fun f hf => by cases hf
  | g :: fs, h => fun f hf => by
    rcases List.mem_cons.mp hf with z | z
    · rw [z]; exact h.1
    · exact all_in h.2 f z
section
variable {K : Frag} {C D : Addr} {b : Bool}
/-- D is an exception class -/
structure DC (K : Frag) (D : Addr) : Prop where
  i : isClsIn K D = true
  t : typeIn K (.ref D) = some (.type "type")
  b : subIn K (.ref D) (.type "BaseException") = some true
theorem kit_cls' (d : DC K D) (s : subIn K (.ref C) (.ref D) = some b) : kitCls K (.ref C) (.ref D) = some b := by
  have h2' : (clsIn K D).isSome = true := d.i
  have e2 : ((clsIn K D).isSome && typeIn K (.ref D) == some (.type "type")) = true := by
    rw [h2', d.t] <;> rfl
  show (if ((clsIn K D).isSome && typeIn K (.ref D) == some (.type "type")) = true then subIn K (.ref C) (.ref D) else none) = some b
  rw [if_pos e2]
  exact s
theorem kit_mk (d : DC K D) (r : subIn K (.ref C) (.ref C) = some true) (s : subIn K (.ref C) (.ref D) = some b) : kitOne K (.ref C) (.ref D) = some b ∧ exmOne K (.ref C) (.ref D) = some b := by
  have k := kit_cls' d s
  refine ⟨?_, ?_⟩
  · unfold kitOne
    by_cases z : C = D
    · subst z
      rw [r] at s
      rw [← s]
      rw [if_pos (by simp)]
    · rw [if_neg (by simp [z])]
      exact k
  · unfold exmOne
    rw [if_pos (by rw [d.b] <;> rfl)]
    exact k
theorem kit_val (s : subIn K (.ref C) (.type "ValueError") = some true) : kitOne K (.ref C) (.type "ValueError") = some true := by
  have e : kitOne K (.ref C) (.type "ValueError") = if kitMeta "ValueError" = true then subIn K (.ref C) (.type "ValueError") else none := rfl
  rw [e, if_pos (by decide +kernel)]
  exact s
/-- what an own exception's class says -/
theorem exc_ef (hg : findIn K (.ref C) "__getattribute__" = some (some (.builtin "BaseException.__getattribute__"))) (hk : findIn K (.ref C) "__getattr__" = some none) (hs : subIn K (.ref C) (.type "BaseException") = some true) (hd : hasDictIn K C = true)
    (ha : findIn K (.ref C) "__class__" = some (some (.builtin "object.__class__"))) (hn : specialIn K (.builtin "object.__class__") "__get__" = some (some (.builtin "getset_descriptor.__get__"))) (ht : takesIn K (.builtin "object.__class__") = some true) (hm : mroIn K C (.type "object") = some true) : L2.ExcC K C ∧ L2.XfC K C :=
  ⟨⟨hg, hk, hs, hd, ha, hn, ht, hm⟩, ⟨hg, hk, hs, hd⟩⟩
theorem nm_mk {h : Heap} {mg : Str → Option Value} {x : Str} {st : Stmt} {f : Addr} {oc : Value} {od an : Option Addr} {osl : Array (Option Value)} {kV doc pm cdv ct : Value} (X : K.In h) (G : h.Ns mainGlobals mg) (a : nsIn K mainGlobals x = some (some (.ref f)))
    (l : K.lookup f = some ⟨oc, od, .func (fnOf x x (L2.defArgs st) (L2.defBody st) (L2.defScope st) .none kV doc pm an cdv ct), osl⟩) (c : codeIn K cdv x = true) (k : keepIn K (.ref f) = true) :
    Nm K mg x f ∧ L2.Fun K x x st f (fnOf x x (L2.defArgs st) (L2.defBody st) (L2.defScope st) .none kV doc pm an cdv ct) := ⟨⟨mg_of X G a, k⟩, L2.fun_mk l c k⟩
end
end Lk
namespace LkX
open PySem PySem.W PySem.Calls PyProof.Rows PySem.HandSPX
theorem exc_mk {prog : Program} {K : Frag} {C fI : Addr} {fs : List Str} {st : Stmt} {qual : Str} {nm q : Str} {N : Addr} {bs bm : List Value} {sn : List Str} {sub : List Value} {ab : Bool} {col : Option Bool} {dd : Option Addr} {k0 k1 k2 k3 k5 : Option Value}
    {oc : Value} {od : Option Addr} {doc pm : Value} {an : Option Addr} {cda : Addr} {ct : Value} {cc : Addr} {osl : Array (Option Value)} {ccl : Value} {cdd : Option Addr} {cvs : Array Value} {ccs : Array (Option Value)} {file : Str} {tf : Tok} {cl : Value} {cld : Option Addr} {csl : Array (Option Value)} {ar : Arg}
    (iC : findIn K (.ref C) "__init__" = some (some (.ref fI)))
    (xL : K.lookup C = some (excClassObj nm q C N bs bm true sn sub ab col dd k0 k1 k2 k3 k5 "ValueError.__new__"))
    (l : K.lookup fI = some ⟨oc, od, .func (ksFn "__init__" qual (L2.defArgs st) (L2.defBody st) (L2.defScope st) .none .none doc pm an (.ref cda) ct cc), osl⟩) (c : codeIn K (.ref cda) qual = true)
    (l2 : K.lookup cda = some ⟨ccl, cdd, .fields cvs, ccs⟩) (l3 : K.lookup cc = some ⟨cl, cld, .cell (some (.ref C)), csl⟩)
    (sa : findIn K (.ref C) "__setattr__" = some (some (.builtin "object.__setattr__"))) (tI : typeIn K (.ref fI) = some (.type "function")) (kC : keepIn K (.ref C) = true) (exC : subIn K (.ref C) (.type "BaseException") = some true)
    (tyC : typeIn K (.ref C) = some (.type "type")) (vE : subIn K (.ref C) (.type "ValueError") = some true) (op : nsIn K cStatics "thirdparty.any" = some none) (gs : nsIn K mainGlobals "super" = some none)
    (su : ks_superIn K C C "__init__" = some (some (.builtin "ValueError.__init__"))) (bmv : refsVE bm = true) (noN : ∀ f ∈ fs, findIn K (.ref C) f = some none)
    (v2 : cvs[2]? = some (.str file tf)) (fil : ((prog.main.file : Str) == file) = true) (ib : InitBody fs (L2.defBody st)) (hd : ((L2.defArgs st).posonlyargs ++ (L2.defArgs st).args).head? = some ar) (har : ar.arg = "self")
    (s0 : (prog.main.scope.names.lookup ("super" : Str)).isSome = false) (s1 : (L2.defScope st).names.lookup ("super" : Str) = some .globalImplicit) (s2 : (L2.defScope st).names.lookup ("__class__" : Str) = some .free) (s3 : ∀ x ∈ (L2.defScope st).names, x.2 ≠ .cell)
    (s4 : ∀ f ∈ ("self" : Str) :: fs, (L2.defScope st).names.lookup f = some .local) (s5 : (L2.defScope st).isCoroutine = false) (s6 : (L2.defScope st).isGenerator = false) (s7 : (L2.defScope st).kind = .function)
    (ba : ∀ us : List Value, us.length = (("self" : Str) :: fs).length → bindArgs (ksFn "__init__" qual (L2.defArgs st) (L2.defBody st) (L2.defScope st) .none .none doc pm an (.ref cda) ct cc) ⟨us, []⟩ = pure ((("self" : Str) :: fs).zip us))
    (nd : (("self" : Str) :: fs).Nodup) (nb : ∀ f ∈ ("self" : Str) :: fs, (f == ("__debug__" : Str)) = false) (few : fs.length ≤ 100) : ExcTxt prog K C fI fs where
  cls := ⟨nm, q, N, bs, bm, sn, sub, ab, col, dd, k0, k1, k2, k3, k5, xL, bmv⟩
  sa := sa
  noN := noN
  iC := iC
  tI := tI
  kC := kC
  exC := exC
  tyC := tyC
  vE := vE
  su := su
  op := op
  gs := gs
  fn := ⟨qual, _, _, _, oc, od, doc, pm, an, cda, ct, cc, osl, ccl, cdd, cvs, ccs, file, tf, cl, cld, csl, ar, l, c, l2, v2, fil, l3, ib, hd, har, s0, s1, s2, s3, s4, s5, s6, s7, ba⟩
  nd := nd
  nb := nb
  few := few
end LkX
namespace Lk
open PySem PySem.Spec PyProof.Rows L2

/-! ### static methods -/
/-- C.m is a static method: its record at p, its def at g -/
structure CSta (K : PySem.W.Frag) (C : Addr) (m : Str) (p g : Addr) : Prop where
  at_ : PySem.W.findCls K (.ref C) (.type "type") m = some (.get (.builtin "staticmethod.__get__") (.ref p) .none (.ref C))
  rc : ∃ rest, PySem.W.recIn K p "staticmethod" = some (.ref g :: rest)
  kp : PySem.W.keepIn K (.ref g) = true
theorem CSta.mk' {K : PySem.W.Frag} {C : Addr} {m : Str} {p g : Addr} {rest : List Value} (a : PySem.W.findCls K (.ref C) (.type "type") m = some (.get (.builtin "staticmethod.__get__") (.ref p) .none (.ref C))) (b : PySem.W.recIn K p "staticmethod" = some (.ref g :: rest)) (c : PySem.W.keepIn K (.ref g) = true) : CSta K C m p g := ⟨a, ⟨rest, b⟩, c⟩
section
variable {X : Cx} {pins : List (Addr × Obj)} {σ : St} {H : Hp} {s : Shared} {C p g : Addr} {m : Str} {A : Around} {E : Value → Shared → Prop}
theorem getmethst_ok {pl : Sem Bool} {Q : Value × List Value → Shared → Prop} (I : Inv X pins σ H s) (r : ClX.CRead X.K C (.type "type")) (k : CSta X.K C m p g)
    (h : ∀ s', Inv X pins σ H s' → Q (.ref g, []) s') : wpAny (model X.prog X.w) A (getMethod (.ref C) m pl) Q E s := by
  obtain ⟨rest, hp⟩ := k.rc
  refine PySem.W.method_cls I.kIn r.ga (PySem.W.cls_bind I.kIn r.rd k.at_ ?_)
  refine wpAny_call (PySem.W.sm_get (s := { s with toks := s.toks + 1 }) I.kIn hp (PySem.W.handed_on rfl ?_))
  exact h _ (I.tok _)
end
section
variable {X : Cx} {k : Nat} {f C p0 g : Addr} {ps : List Str} {sp : Sp} {W : WX} {x m : Str} {p pos apos : Pos} {e o : Expr} {es : List Expr} {ta : TE} {t : TA}
/-- how o.m(args) goes -/
def MTree (X : Cx) (pl : Sem Bool) (o : Expr) (m : Str) (args : List Expr) (pos apos : Pos) : Prop :=
  eval (.Call (.Attribute o m apos) args [] pos) X.env = (do let obj ← eval o X.env; standAt apos.atName; let (fn, fst) ← holding [obj] (getMethod obj m pl); callWith pos fn fst (backTo pos (starEach args X.env)) (backToKw pos (keywordEach [] X.env)))
/-- C.m(e, ..), m static -/
theorem pe_static {pl : Sem Bool} (G : FnA X.prog X.w X.K X.mg X.base k g ps sp) (hr : Room k X.A) (r : ClX.CRead X.K C (.type "type")) (c : CSta X.K C m p0 g) (hm : X.mg x = some (.ref C)) (tk : L2N.Takes X W)
    (ha : PA X (e :: es) t) (hg : Gl X x := by rfl) (hdb : (x == ("__debug__" : Str)) = false := by decide) (hst : starEach (e :: es) X.env = (false, eval e X.env) :: starEach es X.env := by rfl) (hpl : (backTo pos (starEach es X.env)).any (·.1) = false := by rfl) (ht : MTree X pl (.Name x p) m (e :: es) pos apos := by rfl) :
    PE X (.Call (.Attribute (.Name x p) m apos) (e :: es) [] pos) (tCallS sp (WE W) t) := by
  obtain ⟨fd, F, b⟩ := G
  refine ⟨fun pins s σ H Q I h => ?_⟩
  refine PySem.W.methodCall_KW (pl := pl) (ld_glob I hg hm ?_ hdb) ht
  refine getmethst_ok I r c fun s2 I2 => ?_
  refine PySem.W.callWith_K (first := []) (h₀ := X.base) I.ok.mod.kin c.kp (thn (ha.run pos pins s2 σ H _ I2 h) fun us s3 ⟨vs, H2, I3, rv, q2⟩ => ⟨I3.kIn, ?_⟩) hst hpl
  exact run_fnS (E := WE W) F hr b (L2N.passAt tk σ) I3 rv q2
/-! ### methods of instances -/
/-- o.m(..) -/
def tMethS (K : PySem.W.Frag) (C : Addr) (m : Str) (sp : Sp) (E : St → XK) (ta : TE) (t : TA) : TE := fun σ H Q => ta σ H fun x H1 => ∃ a dx fs, x = .ref a ∧ H1 a = some (.ins C dx fs) ∧ fs.lookup m = none ∧ t σ H1 fun vs H2 => sp (x :: vs) H2 Q (E σ)
theorem pe_methS {pl : Sem Bool} (G : FnA X.prog X.w X.K X.mg X.base k f ps sp) (hr : Room k X.A) (c : Cls X.K C) (hm : Meth X.K C m f) (tk : L2N.Takes X W) (he : PE X o ta) (ha : PA X (e :: es) t)
    (hst : starEach (e :: es) X.env = (false, eval e X.env) :: starEach es X.env := by rfl) (hpl : (backTo pos (starEach es X.env)).any (·.1) = false := by rfl) (ht : MTree X pl o m (e :: es) pos apos := by rfl) :
    PE X (.Call (.Attribute o m apos) (e :: es) [] pos) (tMethS X.K C m sp (WE W) ta t) := by
  obtain ⟨fd, F, b⟩ := G
  refine ⟨fun pins s σ H Q I h => ?_⟩
  refine PySem.W.methodCall_KW (pl := pl) (thn (he.run pins s σ H _ I h) fun u s1 ⟨x, H1, I1, rx, a, dx, fs, ex, ea, l, q⟩ => ?_) ht
  subst ex
  obtain rfl : u = Value.ref a := rx
  refine getmeth_ok I1 ea c hm l ?_
  refine PySem.W.callWith_K (first := [.ref a]) (h₀ := X.base) I.ok.mod.kin hm.kp (thn (ha.run pos pins s1 σ H1 _ I1 q) fun us s2 ⟨vs, H2, I2, r, q2⟩ => ⟨I2.kIn, ?_⟩) hst hpl
  exact run_fnS (E := WE W) (us := .ref a :: us) (vs := .ref a :: vs) F hr b (L2N.passAt tk σ) I2 (.cons rfl r) q2
theorem pe_methS0 {pl : Sem Bool} (G : FnA X.prog X.w X.K X.mg X.base k f ps sp) (hr : Room k X.A) (c : Cls X.K C) (hm : Meth X.K C m f) (tk : L2N.Takes X W) (he : PE X o ta) (ht : MTree X pl o m [] pos apos := by rfl) :
    PE X (.Call (.Attribute o m apos) [] [] pos) (tMethS X.K C m sp (WE W) ta tNil) := by
  obtain ⟨fd, F, b⟩ := G
  refine ⟨fun pins s σ H Q I h => ?_⟩
  refine PySem.W.methodCall_KW (pl := pl) (thn (he.run pins s σ H _ I h) fun u s1 ⟨x, H1, I1, rx, a, dx, fs, ex, ea, l, q⟩ => ?_) ht
  subst ex
  obtain rfl : u = Value.ref a := rx
  refine getmeth_ok I1 ea c hm l ?_
  exact PySem.W.callWith_K0 (first := [.ref a]) I1.kIn hm.kp (run_fnS (E := WE W) (us := [.ref a]) (vs := [.ref a]) F hr b (L2N.passAt tk σ) I1 (.cons rfl .nil) q)
/-! ### C(e, ..) -/
def tMakeS (C : Addr) (sp : Sp) (E : St → XK) (t : TA) : TE := fun σ H Q => t σ H fun vs H1 => ∀ x dx, H1 x = none → H1 dx = none → dx ≠ x →
  sp (.ref x :: vs) (upd (upd H1 dx (.own x)) x (.ins C dx [])) (fun v H2 => v = .non ∧ Q (.ref x) H2) (E σ)
theorem pe_makeS (G : FnA X.prog X.w X.K X.mg X.base k f ps sp) (M : Mk X.K C f) (hr : Room (k + 1) X.A) (hm : X.mg x = some (.ref C)) (tk : L2N.Takes X W)
    (ha : PA X (e :: es) t) (hg : Gl X x := by rfl) (hdb : (x == ("__debug__" : Str)) = false := by decide) (he : starEach (e :: es) X.env = (false, eval e X.env) :: starEach es X.env := by rfl) (hpl : (backTo pos (starEach es X.env)).any (·.1) = false := by rfl) :
    PE X (.Call (.Name x p) (e :: es) [] pos) (tMakeS C sp (WE W) t) := by
  obtain ⟨fd, F, b⟩ := G
  refine ⟨fun pins s σ H Q I h => ?_⟩
  refine wpAny_Call_Name_kw (ld_glob I hg hm ?_ hdb)
  refine PySem.W.callWith_K (h₀ := X.base) I.ok.mod.kin M.kp (thn (ha.run pos pins s σ H _ I h) fun us s1 ⟨vs, H1, I1, r, q⟩ => ⟨I1.kIn, ?_⟩) he hpl
  have hq := q (s1.heap.objs.size + 1) s1.heap.objs.size (I1.hok.fresh (Nat.le_succ _)) (I1.hok.fresh (Nat.le_refl _)) (Nat.ne_of_lt (Nat.lt_succ_self _))
  have I2 := Inv.made (C := C) I1
  have r2 : Vals (V.ref (s1.heap.objs.size + 1) :: vs) (Value.ref (s1.heap.objs.size + 1) :: us) := .cons rfl r
  have hl : ((Value.ref (s1.heap.objs.size + 1) :: us) ++ []).length = ps.length := by
    rw [List.append_nil, ← r2.length]; exact F.len _ _ _ _ hq
  have hb2 := b _ (Value.ref (s1.heap.objs.size + 1) :: us) I2.kIn hl
  rw [List.append_nil] at hb2
  refine wpAny_call (make_map (f := f) I1.kIn M.makes M.init (beq_iff_eq.mp M.fn) (codeAny_mono (F.run _ X.stack _ _ ⟨Value.ref (s1.heap.objs.size + 1) :: us, []⟩ (Value.ref (s1.heap.objs.size + 1) :: us) _ _ _ (hr.make C us [])
    (I2.env0.make C us []) hb2 r2 hq) fun r s' hq' => ?_))
  cases r with
  | error e => exact L2N.passAt tk σ pins _ _ e s' I2 hq'
  | ok fl =>
    cases fl with
    | ret u =>
      obtain ⟨v, H', I3, rv, ev, q3⟩ := I2.after hq'
      subst ev
      exact ⟨rv, ⟨V.ref (s1.heap.objs.size + 1), H', I3, rfl, q3⟩⟩
    | next => exact False.elim hq'
    | brk => exact False.elim hq'
    | cont => exact False.elim hq'
end
/-! ### the readings, one step -/
section
variable {σ : St} {H : Hp} {Q : VK} {D : Ends} {te tv : TE} {tl : TA} {K : PySem.W.Frag} {C a dx p : Addr} {f m : Str} {fs : List (Str × V)} {v y : V} {sp : Sp} {E : St → XK} {A : Prop}
/-- x.f -/
def aFld (K : PySem.W.Frag) (f : Str) (Q : VK) : VK := fun x H1 => ∃ a C dx fs v, x = .ref a ∧ H1 a = some (.ins C dx fs) ∧ Cls K C ∧ NoAttr K C f ∧ fs.lookup f = some v ∧ Q v H1
theorem s_fld (k : te σ H (aFld K f Q)) : tFld K te f σ H Q := k
theorem w_fld (hp : H a = some (.ins C dx fs)) (c : Cls K C) (n : NoAttr K C f) (l : fs.lookup f = some v) (k : Q v H) : aFld K f Q (.ref a) H := ⟨a, C, dx, fs, v, rfl, hp, c, n, l, k⟩
/-- x.f = y -/
def aSFld (K : PySem.W.Frag) (f : Str) (y : V) (k : Hp → Prop) : VK := fun x H2 => ∃ a C dx fs, x = .ref a ∧ H2 a = some (.ins C dx fs) ∧ Cls K C ∧ NoAttr K C f ∧ fs.length < 1000 ∧ k (upd H2 a (.ins C dx (putF f y fs)))
theorem s_sfld (k : tv σ H fun y H1 => te σ H1 (aSFld K f y fun H3 => D.nx σ H3)) : sFld K te tv f D σ H := k
theorem w_sfld {k : Hp → Prop} {fs' : List (Str × V)} (hp : H a = some (.ins C dx fs)) (c : Cls K C) (n : NoAttr K C f) (l : fs.length < 1000) (e : putF f y fs = fs') (q : k (upd H a (.ins C dx fs'))) : aSFld K f y k (.ref a) H :=
  ⟨a, C, dx, fs, rfl, hp, c, n, l, by rw [e]; exact q⟩
/-- x.m(..): the object -/
def aMeth (C : Addr) (m : Str) (k : V → Hp → Prop) : VK := fun x H1 => ∃ a dx fs, x = .ref a ∧ H1 a = some (.ins C dx fs) ∧ fs.lookup m = none ∧ k x H1
theorem s_methS (k : te σ H (aMeth C m fun x H1 => tl σ H1 fun vs H2 => sp (x :: vs) H2 Q (E σ))) : tMethS K C m sp E te tl σ H Q := k
theorem w_meth {k : V → Hp → Prop} (hp : H a = some (.ins C dx fs)) (l : fs.lookup m = none) (q : k (.ref a) H) : aMeth C m k (.ref a) H := ⟨a, dx, fs, rfl, hp, l, q⟩
theorem s_makeS (k : tl σ H fun vs H1 => ∀ x dx, H1 x = none → H1 dx = none → dx ≠ x → sp (.ref x :: vs) (upd (upd H1 dx (.own x)) x (.ins C dx [])) (fun v H2 => v = .non ∧ Q (.ref x) H2) (E σ)) : tMakeS C sp E tl σ H Q := k
def aCVal (K : PySem.W.Frag) (f : Str) (Q : VK) : VK := fun x H1 => ∃ C mc v u, x = .ref C ∧ ClX.CRead K C mc ∧ ClX.CVal K C mc f v u ∧ Q v H1
theorem s_cval (k : te σ H (aCVal K f Q)) : ClX.tCVal K te f σ H Q := k
theorem w_cval {mc u : Value} (r : ClX.CRead K C mc) (c : ClX.CVal K C mc f v u) (k : Q v H) : aCVal K f Q (.ref C) H := ⟨C, mc, v, u, rfl, r, c, k⟩
end
theorem put_nil {f : Str} {v : V} : putF f v [] = [(f, v)] := rfl
theorem put_hit {f : Str} {v x : V} {r : List (Str × V)} : putF f v ((f, x) :: r) = (f, v) :: r := by
  unfold putF
  rw [if_pos rfl]
theorem put_miss {f g : Str} {v x : V} {r r' : List (Str × V)} (n : g ≠ f) (e : putF f v r = r') : putF f v ((g, x) :: r) = (g, x) :: r' := by
  rw [← e]
  show (if g = f then _ else _) = _
  rw [if_neg n]
end Lk
namespace Lk
open PySem PySem.Spec PyProof.Rows L2

/-! ### a range that is kept, then walked -/
section
variable {X : Cx} {tg : Expr}
def iRngV (te : TE) : TI := fun σ H R => te σ H fun x H1 => ∃ p lo hi, x = .ref p ∧ H1 p = some (.rng lo hi) ∧ (-(2 ^ 62) ≤ lo ∧ lo < 2 ^ 62 ∧ -(2 ^ 62) ≤ hi ∧ hi < 2 ^ 62) ∧ R (Itr lo (hi - lo).toNat) H1
theorem pi_rng {e : Expr} {te : TE} (he : PE X e te) : PI X tg e (iRngV te) := by
  refine ⟨fun pins s σ H R I h => ?_⟩
  refine thn (he.run pins s σ H _ I h) fun v0 s1 ⟨x, H1, I1, r1, q1⟩ => ?_
  obtain ⟨p, lo, hi, ex, hp, ⟨h1, h2, h3, h4⟩, q⟩ := q1
  subst ex
  cases r1
  obtain ⟨t, u, v, ho⟩ : ∃ t u v, s1.heap.get? p = some { cls := .type "range", data := .fields #[.int lo t, .int hi u, .int 1 v] } := I1.hok p _ hp
  refine wpAny_pyIter_range (a := lo) (b := hi) (c := 1) (t := t) (u := u) (v := v) ho (small_one h1 h2 h3 h4) ?_
  refine ⟨s1.heap.objs.size, [s1.heap.objs.size], _, _, H1, rfl, I1.kept (t' := s1.toks) fun b o e => Heap.get?_push_of_some _ e, turn_range _ lo (hi - lo).toNat, ?_, fun b hb => ?_, q⟩
  · have e1 : lo + ((0 : Nat) : Int) * 1 = lo := by simp
    have e2 : (((hi - lo).toNat : Nat) : Int) - ((0 : Nat) : Int) = Builtin.Range.rangeSize lo hi 1 := by rw [rangeSize_one]; split <;> omega
    show IsRangeIter _ _ (lo + ((0 : Nat) : Int) * 1) ((((hi - lo).toNat : Nat) : Int) - ((0 : Nat) : Int)) 1
    rw [e1, e2]
    exact Heap.get?_push_size _ rfl
  · have e : b = s1.heap.objs.size := by simpa using hb
    subst e
    exact I1.fpOk (Nat.le_refl _) (I1.hok.fresh (Nat.le_refl _))
def rRange2 : List V → Hp → VK → Prop := fun vs H Q => ∃ i j, vs = [V.int i, V.int j] ∧ ∀ p, H p = none → Q (.ref p) (upd H p (.rng i j))
theorem b_range2 : CallR X (.type "range") rRange2 := cr_range2
/-! ### texts -/
def rJoin (K : PySem.W.Frag) : V → List V → Hp → VK → Prop := fun x xs H Q => ∃ a p, ∃ ys : List Str, x = .str a ∧ xs = [.ref p] ∧ (SqL K H p (ys.map V.str) ∨ SqT K H p (ys.map V.str)) ∧ (ys.map (·.length)).sum + ys.length * a.length ≤ 16777216 ∧ Q (.str (Txt.join a ys)) H
theorem m_join : MtR X "str.join" (rJoin X.K) := mt_join
def rSplit : V → List V → Hp → VK → Prop := fun x xs H Q => ∃ a b, x = .str a ∧ xs = [.str b] ∧ (b.length == 0) = false ∧ a.length + 2 ≤ sizeLine ∧ rNewStrs (Txt.split a b) H Q
theorem m_split : MtR X "str.split" rSplit := mt_split
def rDigit : V → List V → Hp → VK → Prop := fun x xs H Q => ∃ a, x = .str a ∧ xs = [] ∧ True ∧ Q (.bl (Txt.isdigit a)) H
theorem m_isdigit : MtR X "str.isdigit" rDigit := mt_isdigit
def rAscii : V → List V → Hp → VK → Prop := fun x xs H Q => ∃ a, x = .str a ∧ xs = [] ∧ True ∧ Q (.bl (Txt.isascii a)) H
theorem m_isascii : MtR X "str.isascii" rAscii := mt_isascii
def rIntS : List V → Hp → VK → Prop := fun xs H Q => ∃ a n, xs = [.str a] ∧ PySem.intText? a = some n ∧ a.length ≤ 640 ∧ Q (.int n) H
def rIntA : List V → Hp → VK → Prop := fun xs H Q => rInt1 xs H Q ∨ rIntS xs H Q
theorem b_intA : CallR X (.type "int") rIntA := CallR.or b_int call_int_str
def rStrI : List V → Hp → VK → Prop := fun xs H Q => ∃ i : Int, xs = [.int i] ∧ i.natAbs.log2 < 1920 ∧ Q (.str (Str.ofString (toString i))) H
theorem b_str : CallR X (.type "str") rStrI := call_str_int
end
section
variable {K : PySem.W.Frag} {H : Hp} {Q : VK} {a b : Str} {p : Addr} {ys : List Str} {i j n : Int} {us : List Int} {α : Type} {f : α → V} {vs : List α}
theorem w_join (hp : H p = some (.lst (ys.map V.str))) (hz : (ys.map (·.length)).sum + ys.length * a.length ≤ 16777216) (k : Q (.str (Txt.join a ys)) H) : rJoin K (.str a) [.ref p] H Q := ⟨a, p, ys, rfl, rfl, .inl (SqL.of hp), hz, k⟩
theorem w_split (hb : (b.length == 0) = false) (hz : a.length + 2 ≤ sizeLine) (k : ∀ p, H p = none → Q (.ref p) (upd H p (.lst ((Txt.split a b).map V.str)))) : rSplit (.str a) [.str b] H Q := ⟨a, b, rfl, rfl, hb, hz, k⟩
theorem w_digit (k : Q (.bl (Txt.isdigit a)) H) : rDigit (.str a) [] H Q := ⟨a, rfl, rfl, trivial, k⟩
theorem w_ascii (k : Q (.bl (Txt.isascii a)) H) : rAscii (.str a) [] H Q := ⟨a, rfl, rfl, trivial, k⟩
theorem w_intA (k : Q (.int i) H) : rIntA [.int i] H Q := .inl (w_int k)
theorem w_intB {c : Bool} (k : Q (.int (if c then 1 else 0)) H) : rIntA [.bl c] H Q := .inl (.inr ⟨c, rfl, k⟩)
theorem w_intS (h : PySem.intText? a = some n) (hl : a.length ≤ 640) (k : Q (.int n) H) : rIntA [.str a] H Q := .inr ⟨a, n, rfl, h, hl, k⟩
theorem w_strI (h : i.natAbs.log2 < 1920) (k : Q (.str (Str.ofString (toString i))) H) : rStrI [.int i] H Q := ⟨i, rfl, h, k⟩
theorem w_rngV (k : ∀ p, H p = none → Q (.ref p) (upd H p (.rng i j))) : rRange2 [.int i, .int j] H Q := ⟨i, j, rfl, k⟩
theorem w_ixQ [Inhabited α] (hp : SqL K H p (vs.map f)) (h0 : 0 ≤ i) (hl : i.toNat < vs.length) (k : Q (f (vs.getD i.toNat default)) H) : rIx K (.ref p) (.int i) H Q :=
  .inl ⟨p, _, _, _, rfl, rfl, hp, atI_pos h0 (map_getD hl), k⟩
theorem w_lenQ (hp : SqL K H p (vs.map f)) (k : Q (.int vs.length) H) : rLen K [.ref p] H Q := ⟨_, _, rfl, .inl ⟨_, hp, rfl⟩, by rw [List.length_map]; exact k⟩
end
section
variable {σ : St} {H : Hp} {Q : VK} {D : Ends} {g : TG} {tt : TT} {te tl : TE} {tb : TS} {K : PySem.W.Frag} {vs : List Nat} {α β : Type} {f : α → V} {f' : β → V}
def aCRngV (g : TG) (tt : TT) (te : TE) (vs : List Nat) (σ : St) (Q : VK) (x : V) (H1 : Hp) : Prop := ∃ p lo hi, x = .ref p ∧ H1 p = some (.rng lo hi) ∧ (-(2 ^ 62) ≤ lo ∧ lo < 2 ^ 62 ∧ -(2 ^ 62) ≤ hi ∧ hi < 2 ^ 62) ∧ aComp (Itr lo (hi - lo).toNat) g tt te vs σ Q H1
theorem s_lcV (k : tl σ H fun x H1 => aCRngV g tt te vs σ Q x H1) : tLc (iRngV tl) g tt te vs σ H Q := k
theorem w_lcV (ψ : Nat → Option β) {p : Addr} {lo n : Int} (hp : H p = some (.rng lo n)) (hl1 : -(2 ^ 62) ≤ lo) (hl2 : lo < 2 ^ 62) (hn1 : -(2 ^ 62) ≤ n) (hn2 : n < 2 ^ 62) (hz : (n - lo).toNat < sizeLine)
    (hs : ∀ (D : Addr) (i : Nat) (acc : List V) (H' : Hp), H D = none → lo + (i : Int) < n → Kp [] H H' → H' D = some (.lst acc) → acc.length < sizeLine → g (.int (lo + (i : Int))) (wipe σ vs) H' fun σ2 H2 => wipe σ2 vs = wipe σ vs ∧ tt σ2 H2 fun b H3 =>
      if b = true then te σ2 H3 (aKeep H D (acc ++ (ψ i).toList.map f')) else cNx H D (acc ++ (ψ i).toList.map f') H3)
    (k : ∀ D H', H D = none → Kp [] H H' → H' D = some (.lst (((List.range (n - lo).toNat).filterMap ψ).map f')) → Q (.ref D) H') : aCRngV g tt te vs σ Q (.ref p) H :=
  ⟨p, lo, n, rfl, hp, ⟨hl1, hl2, hn1, hn2⟩, w_lcR ψ hl1 hl2 hn1 hn2 hz hs k⟩
theorem w_lcE (ψ : Nat → α → Option β) {us : List α} {p : Addr} {j j' : Nat} (hp : H p = some (.lst (us.map f))) (hz : us.length < sizeLine)
    (hs : ∀ (D : Addr) (i : Nat) (u : α) (T : Addr) (acc : List V) (H' : Hp), H D = none → us[i]? = some u → Kp [] H H' → H' D = some (.lst acc) → acc.length < sizeLine → H' T = none → T ≠ D →
      wipe (((wipe σ vs).set j (some (.int (i : Int)))).set j' (some (f u))) vs = wipe σ vs ∧ tt (((wipe σ vs).set j (some (.int (i : Int)))).set j' (some (f u))) (upd H' T (.tup [.int (i : Int), f u])) fun b H3 =>
      if b = true then te (((wipe σ vs).set j (some (.int (i : Int)))).set j' (some (f u))) H3 (aKeep H D (acc ++ (ψ i u).toList.map f')) else cNx H D (acc ++ (ψ i u).toList.map f') H3)
    (k : ∀ D H', H D = none → Kp [] H H' → H' D = some (.lst ((us.zipIdx.filterMap fun q => ψ q.2 q.1).map f')) → Q (.ref D) H') : aCEnum K (gTup K 2 (gCons (gName j) (gCons (gName j') gNil))) tt te vs σ Q [.ref p] H := by
  refine ⟨p, _, rfl, SqL.of hp, fun D hD => ?_⟩
  refine ⟨fun i m H' => m = us.length - i ∧ i ≤ us.length ∧ cNx H D (((us.take i).zipIdx.filterMap fun q => ψ q.2 q.1).map f') H', ⟨us.length, by simp, Nat.zero_le _, ⟨Kp.refl.new hD, upd_same⟩⟩, ?_⟩
  rintro i m H' ⟨rfl, hi, q1, q2⟩
  have hpp := q1.at0 hp
  by_cases hlt : i < us.length
  · have hu : us[i]? = some us[i] := List.getElem?_eq_getElem hlt
    refine .inr ⟨⟨us.map f, f us[i], SqL.of hpp, by rw [List.getElem?_map, hu]; rfl⟩, cNx H D (((us.take (i + 1)).zipIdx.filterMap fun q => ψ q.2 q.1).map f'), fun H2 p' => ⟨us.length - (i + 1), by omega, rfl, hlt, p'⟩, fun x H2 y => ?_⟩
    obtain ⟨T, z, e1, e2, e3, y⟩ := y
    subst e1 e3
    have ez := y _ (SqL.of hpp)
    rw [List.getElem?_map, hu] at ez
    cases ez
    have hlen : (((us.take i).zipIdx.filterMap fun q => ψ q.2 q.1).map f').length < sizeLine := by
      have := List.length_filterMap_le (fun q : α × Nat => ψ q.2 q.1) (us.take i).zipIdx
      rw [List.length_zipIdx, List.length_take] at this
      rw [List.length_map]
      omega
    have hT : T ≠ D := Ne.symm (ne_of_none q2 e2)
    have e : us.take (i + 1) = us.take i ++ [us[i]] := by
      rw [List.take_succ, hu]; rfl
    have e2' : ((us.take (i + 1)).zipIdx.filterMap fun q => ψ q.2 q.1).map f' = ((us.take i).zipIdx.filterMap fun q => ψ q.2 q.1).map f' ++ (ψ i us[i]).toList.map f' := by
      rw [e, List.zipIdx_append, List.filterMap_append, List.map_append]
      have hl : (us.take i).length = i := by rw [List.length_take]; omega
      rw [hl]
      cases q : ψ i us[i] <;> simp [q]
    rw [e2']
    exact ⟨T, _, rfl, .inl (.inl upd_same), rfl, _, _, rfl, _, _, rfl, rfl, hs D i _ T _ H' hD hu q1 q2 hlen e2 hT⟩
  · have e : i = us.length := by omega
    subst e
    rw [List.take_length] at q2
    exact .inl ⟨⟨_, SqL.of hpp, by simp⟩, k D H' hD q1 q2⟩
end
/-! ### list(range(a, b)) -/
def rgI (a b : Int) : List Int := (List.range (b - a).toNat).map fun i : Nat => a + (i : Int)
theorem rgV_int (a b : Int) : rgV a b = (rgI a b).map V.int := by
  unfold rgV rgI
  rw [List.map_map]; rfl
theorem rgI_len (a b : Int) : (rgI a b).length = (b - a).toNat := by
  unfold rgI
  rw [List.length_map, List.length_range]
theorem rgI_get {a b : Int} {i : Nat} (h : i < (b - a).toNat) : (rgI a b)[i]? = some (a + (i : Int)) := by
  unfold rgI
  rw [List.getElem?_map, List.getElem?_range h]; rfl
def aRgL : R2 := fun x y H Q => ∃ i j, x = .int i ∧ y = .int j ∧ RgOk i j ∧ ∀ q, H q = none → Q (.ref q) (upd H q (.lst (rgV i j)))
section
variable {σ : St} {H : Hp} {Q : VK} {ta tb : TE} {i j : Int} {p q : Addr} {us : List Int}
theorem s_listRg (k : ta σ H fun x H1 => tb σ H1 fun y H2 => aRgL x y H2 Q) : tLstRg (tRg2 ta tb) σ H Q := by
  refine ?_
  unfold tLstRg tRg2
  have e : ∀ (x y : V) (H2 : Hp), aRgL x y H2 Q = ∃ i j, x = .int i ∧ y = .int j ∧ RgOk i j ∧ ∀ q, H2 q = none → Q (.ref q) (upd H2 q (.lst (rgV i j))) := fun _ _ _ => rfl
  exact k
theorem w_rgL (h : RgOk i j) (k : ∀ q, H q = none → Q (.ref q) (upd H q (.lst ((rgI i j).map V.int)))) : aRgL (.int i) (.int j) H Q := ⟨i, j, rfl, rfl, h, fun q hq => by rw [rgV_int]; exact k q hq⟩
theorem w_addL1 (hp : H p = some (.lst [.int i])) (hq : H q = some (.lst (us.map V.int))) (hl : 1 + us.length ≤ sizeLine) (k : ∀ r, H r = none → Q (.ref r) (upd H r (.lst ((i :: us).map V.int)))) : aAdd (.ref p) (.ref q) H Q :=
  w_addLM (us := [i]) (vs := us) (f := V.int) hp hq hl k
theorem w_addR1 (hp : H p = some (.lst (us.map V.int))) (hq : H q = some (.lst [.int i])) (hl : us.length + 1 ≤ sizeLine) (k : ∀ r, H r = none → Q (.ref r) (upd H r (.lst ((us ++ [i]).map V.int)))) : aAdd (.ref p) (.ref q) H Q :=
  w_addLM (us := us) (vs := [i]) (f := V.int) hp hq hl k
end
theorem log2_small {i : Int} (h : -1000000000000 ≤ i ∧ i ≤ 1000000000000) : i.natAbs.log2 < 1920 := by
  have h1 : i.natAbs < 2 ^ 40 := by omega
  by_cases z : i.natAbs = 0
  · rw [z]; decide
  · have := (Nat.log2_lt z).mpr h1
    omega
end Lk
namespace Lk
open PySem PySem.Spec PyProof.Rows L2 TL

/-! ### words that are numbers -/
def strI (i : Int) : Str := Str.ofString (toString i)
def isNumW (z : Str) : Bool := (Txt.isascii z && Txt.isdigit z) && (decide (z = "0") || (!decide ((⟨#[z.cps.toList.getD 0 default]⟩ : Str) = "0") && decide ((z.length : Int) ≤ 9)))
def numV (z : Str) : Int := (intText? z).getD 0
theorem ascii_digit : ∀ c < 128, Unicode.isDigit c = true → 48 ≤ c ∧ c ≤ 57 := by decide +kernel
theorem digit_ascii : ∀ c < 58, 48 ≤ c → Unicode.isDigit c = true := by decide +kernel
theorem num_digits {z : Str} (h1 : Txt.isascii z = true) (h2 : Txt.isdigit z = true) : NumText.AllDigits (tl z) ∧ tl z ≠ [] := by
  unfold Txt.isascii at h1
  unfold Txt.isdigit at h2
  rw [Bool.and_eq_true] at h2
  obtain ⟨h2, h3⟩ := h2
  refine ⟨fun c hc => ?_, fun e => ?_⟩
  · have m : c ∈ z.cps := Array.mem_toList_iff.mp hc
    have a := (Array.all_eq_true_iff_forall_mem.mp h1) c m
    have b := (Array.all_eq_true_iff_forall_mem.mp h3) c m
    exact ascii_digit c (by simpa using a) b
  · have : z.length = 0 := by rw [len_tl, e]; rfl
    rw [this] at h2
    simp at h2
theorem isNumW_parts {z : Str} (h : isNumW z = true) : Txt.isascii z = true ∧ Txt.isdigit z = true ∧ z.length ≤ 9 := by
  unfold isNumW at h
  rw [Bool.and_eq_true, Bool.and_eq_true] at h
  obtain ⟨⟨h1, h2⟩, h3⟩ := h
  refine ⟨h1, h2, ?_⟩
  rw [Bool.or_eq_true] at h3
  rcases h3 with h3 | h3
  · have : z = "0" := by simpa using h3
    rw [this]; decide
  · rw [Bool.and_eq_true] at h3
    have := h3.2
    simp at this
    omega
theorem num_text {z : Str} (h : isNumW z = true) : intText? z = some (numV z) ∧ 0 ≤ numV z ∧ z.length ≤ 640 := by
  obtain ⟨h1, h2, h3⟩ := isNumW_parts h
  obtain ⟨d, ne⟩ := num_digits h1 h2
  have e := PySem.intText_digits (x := z) d ne (by omega)
  unfold numV
  rw [e]
  refine ⟨rfl, ?_, by omega⟩
  show 0 ≤ ((NumText.digitsVal z.cps.toList : Nat) : Int)
  omega
/-! ### splits are not long -/
theorem spl_len (S : List Nat) : ∀ (l : List Nat) (k : Nat) (acc : List Nat), (spl S k acc l).length ≤ l.length + 1
  | [], k, acc => by rw [spl_nil]; simp
  | c :: r, 0, acc => by
    have h1 := spl_len S r (S.length - 1) []
    have h2 := spl_len S r 0 (acc ++ [c])
    cases h : pre S (c :: r) with
    | true => rw [spl_hit h]; simp; omega
    | false => rw [spl_miss h]; simp; omega
  | c :: r, k + 1, acc => by
    have h1 := spl_len S r k acc
    show (spl S k acc r).length ≤ _
    simp; omega
theorem spl_part_len (S : List Nat) : ∀ (l : List Nat) (k : Nat) (acc : List Nat), ∀ p ∈ spl S k acc l, p.length ≤ acc.length + l.length
  | [], k, acc => by rw [spl_nil]; simp
  | c :: r, 0, acc => by
    intro p hp
    cases h : pre S (c :: r) with
    | true =>
      rw [spl_hit h] at hp
      rcases List.mem_cons.mp hp with z | z
      · rw [z]; simp
      · have := spl_part_len S r (S.length - 1) [] p z
        simp at this ⊢; omega
    | false =>
      rw [spl_miss h] at hp
      have := spl_part_len S r 0 (acc ++ [c]) p hp
      simp at this ⊢; omega
  | c :: r, k + 1, acc => by
    intro p hp
    have := spl_part_len S r k acc p hp
    simp at this ⊢; omega
theorem spl_ne (S : List Nat) : ∀ (l : List Nat) (k : Nat) (acc : List Nat), spl S k acc l ≠ []
  | [], k, acc => by rw [spl_nil]; simp
  | c :: r, 0, acc => by
    cases h : pre S (c :: r) with
    | true => rw [spl_hit h]; simp
    | false => rw [spl_miss h]; exact spl_ne S r 0 _
  | c :: r, k + 1, acc => spl_ne S r k acc
section
variable {z y : Str}
theorem split_len (hy : tl y ≠ []) (hk : y.cps.all (· < 256) = true) : (Txt.split z y).length ≤ z.length + 1 := by
  have e := split_spl z y hy (kind_ok hk)
  have := spl_len (tl y) (tl z) 0 []
  rw [← e, List.length_map] at this
  rw [len_tl]; exact this
theorem split_part_len (hy : tl y ≠ []) (hk : y.cps.all (· < 256) = true) : ∀ p ∈ Txt.split z y, p.length ≤ z.length := by
  intro p hp
  have e := split_spl z y hy (kind_ok hk)
  have := spl_part_len (tl y) (tl z) 0 [] (tl p) (by rw [← e]; exact List.mem_map_of_mem hp)
  rw [len_tl, len_tl]
  simpa using this
theorem split_ne (hy : tl y ≠ []) (hk : y.cps.all (· < 256) = true) : Txt.split z y ≠ [] := by
  intro h
  have e := split_spl z y hy (kind_ok hk)
  rw [h] at e
  exact spl_ne _ _ _ _ e.symm
end
theorem tl_sp : tl " " = [32] := by decide +kernel
theorem tl_bar : tl " | " = [32, 124, 32] := by decide +kernel
theorem k_sp : (" " : Str).cps.all (· < 256) = true := by decide +kernel
theorem k_bar : (" | " : Str).cps.all (· < 256) = true := by decide +kernel
/-- the numbers of a part, if it is one -/
def numsOf (z : Str) : Option (List Int) := if (Txt.split z " ").all isNumW = true then some ((Txt.split z " ").map numV) else none
theorem numsOf_len {z : Str} {us : List Int} (h : numsOf z = some us) : 1 ≤ us.length ∧ us.length ≤ z.length + 1 ∧ ∀ u ∈ us, 0 ≤ u := by
  unfold numsOf at h
  split at h
  · rename_i q
    cases h
    rw [List.length_map]
    refine ⟨?_, split_len (by rw [tl_sp]; simp) k_sp, fun u hu => ?_⟩
    · have := split_ne (z := z) (y := " ") (by rw [tl_sp]; simp) k_sp
      cases e : Txt.split z " " with
      | nil => exact absurd e this
      | cons a l => simp
    · obtain ⟨w, hw, rfl⟩ := List.mem_map.mp hu
      exact (num_text (List.all_eq_true.mp q w hw)).2.1
  · cases h
/-! ### texts of numbers -/
theorem tl_strI {i : Int} (h : 0 ≤ i) : tl (strI i) = numL i.toNat := by
  have e := tl_num i.toNat
  rw [show ((i.toNat : Nat) : Int) = i by omega] at e
  exact e
theorem strI_len {i : Int} (h : 0 ≤ i) (h2 : i < 1000000000) : (strI i).length ≤ 9 := by
  rw [len_tl, tl_strI h]
  exact numL_len (by decide) (by omega)
theorem numL_head : ∀ (m n : Nat), n ≤ m → 0 < n → ∃ c r, numL n = c :: r ∧ c ≠ 48 := by
  intro m
  induction m with
  | zero => intro n h1 h2; omega
  | succ m ih =>
    intro n h1 h2
    by_cases h : n < 10
    · exact ⟨48 + n, [], numL_lt h, by omega⟩
    · obtain ⟨c, r, e, hc⟩ := ih (n / 10) (by omega) (by omega)
      exact ⟨c, r ++ [48 + n % 10], by rw [numL_step (by omega), e]; rfl, hc⟩
theorem isNum_strI {i : Int} (h : 0 ≤ i) (h2 : i < 1000000000) : isNumW (strI i) = true := by
  have et := tl_strI h
  have hl := strI_len h h2
  have hd := numL_digits i.toNat
  unfold isNumW
  rw [Bool.and_eq_true, Bool.and_eq_true]
  have hmem : ∀ c ∈ (strI i).cps, 48 ≤ c ∧ c ≤ 57 := fun c hc => hd c (by rw [← et]; exact Array.mem_toList_iff.mpr hc)
  have hne : 0 < (strI i).length := by
    rw [len_tl, et]
    exact List.length_pos_iff.mpr (numL_ne _)
  refine ⟨⟨?_, ?_⟩, ?_⟩
  · unfold Txt.isascii
    rw [Array.all_eq_true_iff_forall_mem]
    intro c hc
    have := hmem c hc
    simp; omega
  · unfold Txt.isdigit
    rw [Bool.and_eq_true]
    refine ⟨by simpa using hne, ?_⟩
    rw [Array.all_eq_true_iff_forall_mem]
    intro c hc
    have := hmem c hc
    exact digit_ascii c (by omega) this.1
  · rw [Bool.or_eq_true]
    by_cases z : i = 0
    · left
      subst z
      decide +kernel
    · right
      rw [Bool.and_eq_true]
      obtain ⟨c, r, e, hc⟩ := numL_head i.toNat i.toNat (Nat.le_refl _) (by omega)
      refine ⟨?_, by simp; omega⟩
      have e2 : (strI i).cps.toList = c :: r := by
        show tl (strI i) = _
        rw [et, e]
      rw [e2]
      simp only [List.getD_cons_zero]
      rw [Bool.not_eq_true', decide_eq_false_iff_not]
      intro q
      have q2 := congrArg tl q
      have q3 : tl ("0" : Str) = [48] := by decide +kernel
      rw [q3] at q2
      have q4 : tl (⟨#[c]⟩ : Str) = [c] := rfl
      rw [q4] at q2
      injection q2 with q5
      exact hc q5
theorem numV_strI {i : Int} (h : 0 ≤ i) (h2 : i < 1000000000) : numV (strI i) = i := by
  have e := int_num (n := i.toNat) (Nat.le_trans (numL_len (k := 9) (by decide) (by omega)) (by decide))
  rw [show ((i.toNat : Nat) : Int) = i by omega] at e
  unfold numV strI
  rw [e]; rfl
theorem no_sign {i : Int} {s : Nat} (h : 0 ≤ i) (hs : s < 48 ∨ 57 < s) : s ∉ tl (strI i) := by
  rw [tl_strI h]
  exact numL_free hs
theorem split_nums {us : List Int} (hne : us ≠ []) (h : ∀ u ∈ us, 0 ≤ u) : Txt.split (Txt.join " " (us.map strI)) " " = us.map strI := by
  refine split_join (s := 32) (S := []) tl_sp k_sp (by simpa using hne) fun p hp => ?_
  obtain ⟨u, hu, rfl⟩ := List.mem_map.mp hp
  exact no_sign (h u hu) (by omega)
theorem numsOf_join {us : List Int} (hne : us ≠ []) (h : ∀ u ∈ us, 0 ≤ u ∧ u < 1000000000) : numsOf (Txt.join " " (us.map strI)) = some us := by
  unfold numsOf
  rw [split_nums hne (fun u hu => (h u hu).1)]
  have q : (us.map strI).all isNumW = true := by
    rw [List.all_eq_true]
    intro w hw
    obtain ⟨u, hu, rfl⟩ := List.mem_map.mp hw
    exact isNum_strI (h u hu).1 (h u hu).2
  rw [if_pos q, List.map_map]
  congr 1
  conv => rhs; rw [← List.map_id us]
  apply List.map_congr_left
  intro u hu
  exact numV_strI (h u hu).1 (h u hu).2
/-- a bar is in no text of numbers -/
theorem joinL_free {s : Nat} {S : List Nat} (hS : s ∉ S) : ∀ {ps : List (List Nat)}, (∀ p ∈ ps, s ∉ p) → s ∉ joinL S ps
  | [], _ => List.not_mem_nil
  | [p], h => h p (List.mem_singleton.mpr rfl)
  | p :: q :: r, h => by
    show s ∉ p ++ (S ++ joinL S (q :: r))
    intro z
    rcases List.mem_append.mp z with z | z
    · exact h p List.mem_cons_self z
    · rcases List.mem_append.mp z with z | z
      · exact hS z
      · exact joinL_free hS (fun x hx => h x (List.mem_cons_of_mem _ hx)) z
theorem no_bar {us : List Int} (h : ∀ u ∈ us, 0 ≤ u) : 124 ∉ tl (Txt.join " " (us.map strI)) := by
  rw [join_eq, tl_join, tl_sp]
  refine joinL_free (by decide) fun p hp => ?_
  obtain ⟨w, hw, rfl⟩ := List.mem_map.mp hp
  obtain ⟨u, hu, rfl⟩ := List.mem_map.mp hw
  exact no_sign (h u hu) (by omega)
theorem pre_bar {p q : List Nat} (h : 124 ∉ p) (hq : ∀ c, q[0]? = some c → c ≠ 124) : ∀ i, i < p.length → pre [32, 124, 32] ((p ++ q).drop i) = false := by
  intro i hi
  cases e : pre [32, 124, 32] ((p ++ q).drop i) with
  | false => rfl
  | true =>
    exfalso
    unfold pre at e
    have e2 : ((p ++ q).drop i).take 3 = [32, 124, 32] := by simpa using e
    have e3 : ((p ++ q).drop i)[1]? = some 124 := by
      have : (((p ++ q).drop i).take 3)[1]? = some 124 := by rw [e2]; rfl
      rw [List.getElem?_take_of_lt (by omega)] at this
      exact this
    rw [List.getElem?_drop] at e3
    by_cases z : i + 1 < p.length
    · rw [List.getElem?_append_left z] at e3
      exact h (List.mem_of_getElem? e3)
    · rw [List.getElem?_append_right (by omega), show i + 1 - p.length = 0 by omega] at e3
      exact hq 124 e3 rfl
theorem spl_bar {p rest acc : List Nat} (h : 124 ∉ p) : spl [32, 124, 32] 0 acc (p ++ ([32, 124, 32] ++ rest)) = (acc ++ p) :: spl [32, 124, 32] 0 [] rest :=
  spl_part (by simp) (pre_bar h (fun c e => by simp at e; omega))
theorem spl_bar_last {p acc : List Nat} (h : 124 ∉ p) : spl [32, 124, 32] 0 acc p = [acc ++ p] := spl_last fun i hi => by
  have := pre_bar (q := []) h (fun c e => by simp at e) i hi
  rwa [List.append_nil] at this
theorem split_three {a b c : Str} (ha : 124 ∉ tl a) (hb : 124 ∉ tl b) (hc : 124 ∉ tl c) : Txt.split (a ++ " | " ++ b ++ " | " ++ c) " | " = [a, b, c] := by
  refine map_tl_inj ?_
  rw [split_spl _ _ (by rw [tl_bar]; simp) (kind_ok k_bar), tl_append, tl_append, tl_append, tl_append, tl_bar]
  rw [List.append_assoc, List.append_assoc, List.append_assoc, spl_bar ha, spl_bar hb, spl_bar_last hc]
  rfl
theorem join_three (a b c : Str) : Txt.join " | " [a, b, c] = a ++ " | " ++ b ++ " | " ++ c := by
  refine ext_tl ?_
  rw [join_eq, tl_join, tl_append, tl_append, tl_append, tl_append]
  show tl a ++ (tl " | " ++ (tl b ++ (tl " | " ++ tl c))) = _
  simp only [List.append_assoc]
theorem sum_len {ys : List Str} {c : Nat} (h : ∀ y ∈ ys, y.length ≤ c) : (ys.map (·.length)).sum ≤ ys.length * c := by
  induction ys with
  | nil => simp
  | cons y ys ih =>
    have h1 := h y List.mem_cons_self
    have h2 := ih (fun z hz => h z (List.mem_cons_of_mem _ hz))
    rw [List.map_cons, List.sum_cons, List.length_cons, Nat.succ_mul]
    omega
theorem joinL_len (S : List Nat) : ∀ ps : List (List Nat), (joinL S ps).length ≤ (ps.map (·.length)).sum + ps.length * S.length
  | [] => by simp [joinL]
  | [p] => by simp [joinL]
  | p :: q :: r => by
    have := joinL_len S (q :: r)
    show (p ++ (S ++ joinL S (q :: r))).length ≤ _
    simp only [List.length_append, List.map_cons, List.sum_cons, List.length_cons] at this ⊢
    rw [Nat.succ_mul]
    omega
theorem join_len {ys : List Str} {c : Nat} (h : ∀ y ∈ ys, y.length ≤ c) : (Txt.join " " ys).length ≤ ys.length * (c + 1) := by
  rw [len_tl, join_eq, tl_join, tl_sp]
  have h1 := joinL_len [32] (ys.map tl)
  have h2 := sum_len h
  have e : ((ys.map tl).map (·.length)) = ys.map (·.length) := by
    rw [List.map_map]
    apply List.map_congr_left
    intro y _
    show (tl y).length = y.length
    rw [len_tl]
  rw [e, List.length_map] at h1
  rw [Nat.mul_add]
  simp at h1 ⊢
  omega
theorem nums_len {us : List Int} (h : ∀ u ∈ us, 0 ≤ u ∧ u < 1000000000) : (Txt.join " " (us.map strI)).length ≤ us.length * 10 ∧ ((us.map strI).map (·.length)).sum ≤ us.length * 9 := by
  have q : ∀ y ∈ us.map strI, y.length ≤ 9 := by
    intro y hy
    obtain ⟨u, hu, rfl⟩ := List.mem_map.mp hy
    exact strI_len (h u hu).1 (h u hu).2
  have h1 := join_len q
  have h2 := sum_len q
  rw [List.length_map] at h1 h2
  exact ⟨h1, h2⟩
theorem len_app (a b : Str) : (a ++ b).length = a.length + b.length := by
  rw [len_tl, tl_append, List.length_append, ← len_tl, ← len_tl]
/-! ### lists of tuples -/
/-- xs holds, one by one, tuples of the rows vss -/
inductive Tps (H : Hp) : List V → List (List V) → Prop
  | nil : Tps H [] []
  | cons {r xs vs vss} : H r = some (.tup vs) → Tps H xs vss → Tps H (.ref r :: xs) (vs :: vss)
theorem Tps.kp {H H' : Hp} {xs : List V} {ps : List (List V)} (h : Tps H xs ps) (k : ∀ a o, (∃ vs, o = HO.tup vs) → H a = some o → H' a = some o) : Tps H' xs ps := by
  induction h with
  | nil => exact .nil
  | cons h1 _ ih => exact .cons (k _ _ ⟨_, rfl⟩ h1) ih
theorem Tps.len {H : Hp} {xs : List V} {ps : List (List V)} (h : Tps H xs ps) : xs.length = ps.length := by
  induction h with
  | nil => rfl
  | cons _ _ ih => simp [ih]
theorem Tps.snoc {H : Hp} {xs : List V} {ps : List (List V)} {r : Addr} {vs : List V} (h : Tps H xs ps) (e : H r = some (.tup vs)) : Tps H (xs ++ [.ref r]) (ps ++ [vs]) := by
  induction h with
  | nil => exact .cons e .nil
  | cons h1 _ ih => exact .cons h1 ih
theorem Tps.get {H : Hp} {xs : List V} {ps : List (List V)} (h : Tps H xs ps) : ∀ {k : Nat} {p : List V}, ps[k]? = some p → ∃ r, xs[k]? = some (.ref r) ∧ H r = some (.tup p) := by
  induction h with
  | nil => intro k p e; simp at e
  | cons h1 _ ih =>
    intro k p e
    cases k with
    | zero => simp at e; subst e; exact ⟨_, rfl, h1⟩
    | succ k => simpa using ih (by simpa using e)
theorem Tps.getX {H : Hp} {xs : List V} {ps : List (List V)} (h : Tps H xs ps) {k : Nat} {x : V} (e : xs[k]? = some x) : ∃ r p, x = .ref r ∧ ps[k]? = some p ∧ H r = some (.tup p) := by
  have hl : k < ps.length := by rw [← h.len]; exact (List.getElem?_eq_some_iff.mp e).1
  obtain ⟨r, h1, h2⟩ := h.get (List.getElem?_eq_getElem hl)
  rw [e] at h1
  cases h1
  exact ⟨r, _, rfl, List.getElem?_eq_getElem hl, h2⟩
theorem Tps.new {H : Hp} {xs : List V} {ps : List (List V)} {p : Addr} {o : HO} (h : Tps H xs ps) (hp : H p = none) : Tps (upd H p o) xs ps := h.kp fun a u _ e => by rw [upd_ne (ne_of_none e hp)]; exact e
/-- a list is changed -/
theorem Tps.mut {H : Hp} {xs ys : List V} {ps : List (List V)} {p : Addr} {o : HO} (h : Tps H xs ps) (hp : H p = some (.lst ys)) : Tps (upd H p o) xs ps := h.kp fun a u z e => by
  obtain ⟨vs, rfl⟩ := z
  rw [upd_ne (ne_of e hp (by intro q; cases q))]; exact e
theorem Tps.kp0 {H H' : Hp} {xs : List V} {ps : List (List V)} (h : Tps H xs ps) (k : Kp [] H H') : Tps H' xs ps := h.kp fun a o _ e => k a o e List.not_mem_nil
/-- lists, at most, are changed -/
theorem Tps.kpm {ms : List Addr} {H H' : Hp} {xs : List V} {ps : List (List V)} (h : Tps H xs ps) (k : Kp ms H H') (hm : ∀ m ∈ ms, ∃ ys, H m = some (.lst ys)) : Tps H' xs ps := h.kp fun a o z e => k a o e fun hz => by
  obtain ⟨vs, rfl⟩ := z
  obtain ⟨ys, e2⟩ := hm a hz
  rw [e] at e2; cases e2
/-! ### equal tuples -/
/-- flat rows as data -/
def datV : V → PyData
  | .int i => .int i
  | .str x => .str x
  | .bl b => .bool b
  | _ => .none
def flatRow (vs : List V) : Bool := vs.all fun v => match v with
  | .int _ => true
  | .str _ => true
  | .bl _ => true
  | .non => true
  | _ => false
theorem dpRow {K : PySem.W.Frag} {H : Hp} : ∀ {vs : List V}, flatRow vs = true → DpAll K H vs (vs.map datV)
  | [], _ => .nil
  | v :: vs, h => by
    unfold flatRow at h
    rw [List.all_cons, Bool.and_eq_true] at h
    refine .cons ?_ (dpRow h.2)
    cases v with
    | int i => exact .int i
    | str x => exact .str x
    | bl b => exact .bl b
    | non => exact .non
    | byt b => exact absurd h.1 Bool.false_ne_true
    | flt b => exact absurd h.1 Bool.false_ne_true
    | ref a => exact absurd h.1 Bool.false_ne_true
    | ty n => exact absurd h.1 Bool.false_ne_true
theorem eqRow : ∀ vs : List V, PyData.eqvAll (vs.map datV) (vs.map datV) = true
  | [] => rfl
  | v :: vs => by
    rw [List.map_cons, PyData.eqvAll, eqRow vs, Bool.and_true]
    cases v <;> simp [datV, PyData.eqv]
theorem sh_row {ds : List PyData} (h : ds.all (fun d => d.canLay0 && decide (d.depth ≤ 1)) = true) : SeqAt.shaped (.tuple ds) = true := by
  have a : ∀ ds : List PyData, ds.all (fun d => d.canLay0 && decide (d.depth ≤ 1)) = true → PyData.canLayAll0 ds = true ∧ PyData.depthAll ds ≤ 1 := by
    intro ds
    induction ds with
    | nil => intro _; exact ⟨by simp [PyData.canLayAll0], by simp [PyData.depthAll]⟩
    | cons d ds ih =>
      intro h
      simp only [List.all_cons, Bool.and_eq_true, decide_eq_true_eq] at h
      have := ih (by simpa using h.2)
      refine ⟨by simp [PyData.canLayAll0, h.1.1, this.1], by simp [PyData.depthAll]; omega⟩
  have := a ds h
  unfold SeqAt.shaped
  simp [PyData.canLay0, PyData.depth, this.1]
  omega
def okV : V → Bool
  | .int _ => true
  | .str x => PyData.strOk x
  | .bl _ => true
  | .non => true
  | _ => false
theorem shaped_row {vs : List V} (h : vs.all okV = true) : SeqAt.shaped (.tuple (vs.map datV)) = true := by
  refine sh_row ?_
  rw [List.all_map]
  rw [List.all_eq_true] at h ⊢
  intro v hv
  have := h v hv
  cases v <;> simp_all [okV, datV, PyData.canLay0, PyData.depth]
theorem flat_row {vs : List V} (h : vs.all okV = true) : flatRow vs = true := by
  unfold flatRow
  rw [List.all_eq_true] at h ⊢
  intro v hv
  have := h v hv
  cases v <;> simp_all [okV]
section
variable {K : PySem.W.Frag} {H : Hp} {Q : VK} {p q : Addr} {vs : List V}
theorem w_neT (hp : H p = some (.tup vs)) (hq : H q = some (.tup vs)) (hf : flatRow vs = true) (hs : SeqAt.shaped (.tuple (vs.map datV)) = true) (k : Q (.bl false) H) : aNe K (.ref p) (.ref q) H Q :=
  .inr ⟨_, _, .tup (.inl (.inl hp)) (dpRow hf), .tup (.inl (.inl hq)) (dpRow hf), hs, hs, by rw [PyData.eqv, eqRow]; exact k⟩
theorem w_eqT (hp : H p = some (.tup vs)) (hq : H q = some (.tup vs)) (hf : flatRow vs = true) (hs : SeqAt.shaped (.tuple (vs.map datV)) = true) (k : Q (.bl true) H) : aEq K (.ref p) (.ref q) H Q :=
  .inr ⟨_, _, .tup (.inl (.inl hp)) (dpRow hf), .tup (.inl (.inl hq)) (dpRow hf), hs, hs, by rw [PyData.eqv, eqRow]; exact k⟩
end
/-! ### from the end -/
theorem atI_neg {α : Type} {xs : List α} {i : Int} {v : α} (hi : i < 0) (hl : -i ≤ (xs.length : Int)) (h : xs[((xs.length : Int) + i).toNat]? = some v) : atI xs i = some v := by
  unfold atI ixN
  rw [if_neg (by omega), if_pos (by omega), show i + (xs.length : Int) = (xs.length : Int) + i by omega]
  exact h
theorem w_ixNeg {α : Type} [Inhabited α] {f : α → V} {us : List α} {K : PySem.W.Frag} {H : Hp} {Q : VK} {p : Addr} {i : Int} (hp : H p = some (.lst (us.map f))) (hi : i < 0) (hl : -i ≤ (us.length : Int)) (k : Q (f (us.getD ((us.length : Int) + i).toNat default)) H) : rIx K (.ref p) (.int i) H Q :=
  .inl ⟨p, _, _, _, rfl, rfl, SqL.of hp, atI_neg hi (by simpa using hl) (by
    rw [List.length_map, List.getElem?_map, List.getD_eq_getElem?_getD, List.getElem?_eq_getElem (by omega)]; rfl), k⟩
/-! ### members: texts, truth values -/
section
variable {p : Addr} {H : Hp} {Q : VK} {K : PySem.W.Frag}
theorem eqV_str (a b : Str) : eqV (.str a) (.str b) = decide (a = b) := by
  have : eqV (.str a) (.str b) = (a == b) := rfl
  rw [this]
  by_cases z : a = b <;> simp [z]
theorem eqV_bl (a b : Bool) : eqV (.bl a) (.bl b) = decide (a = b) := by cases a <;> cases b <;> rfl
theorem inV_str {x : Str} : ∀ us : List Str, inV (.str x) (us.map V.str) = decide (x ∈ us)
  | [] => by simp [inV]
  | u :: us => by
    have h := inV_str (x := x) us
    unfold inV at h ⊢
    rw [List.map_cons, List.any_cons, h, eqV_str]
    by_cases z : u = x
    · simp [z]
    · have z2 : ¬ x = u := fun q => z q.symm
      simp [z, z2]
theorem inV_bl {x : Bool} : ∀ us : List Bool, inV (.bl x) (us.map V.bl) = decide (x ∈ us)
  | [] => by simp [inV]
  | u :: us => by
    have h := inV_bl (x := x) us
    unfold inV at h ⊢
    rw [List.map_cons, List.any_cons, h, eqV_bl]
    by_cases z : u = x
    · simp [z]
    · have z2 : ¬ x = u := fun q => z q.symm
      simp [z, z2]
theorem flat_str : ∀ us : List Str, (us.map V.str).all flatV = true
  | [] => rfl
  | u :: us => by rw [List.map_cons, List.all_cons, flat_str us]; rfl
theorem flat_bl : ∀ us : List Bool, (us.map V.bl).all flatV = true
  | [] => rfl
  | u :: us => by rw [List.map_cons, List.all_cons, flat_bl us]; rfl
theorem w_inS {x : Str} {us : List Str} (hp : H p = some (.lst (us.map V.str))) (k : Q (.bl (decide (x ∈ us))) H) : rIn K false (.str x) (.ref p) H Q :=
  ⟨p, _, rfl, .inl (SqL.of hp), rfl, flat_str us, by rw [inV_str]; exact k⟩
theorem w_notInS {x : Str} {us : List Str} (hp : H p = some (.lst (us.map V.str))) (k : Q (.bl (!decide (x ∈ us))) H) : rIn K true (.str x) (.ref p) H Q :=
  ⟨p, _, rfl, .inl (SqL.of hp), rfl, flat_str us, by rw [inV_str]; exact k⟩
theorem w_inB {x : Bool} {us : List Bool} (hp : H p = some (.lst (us.map V.bl))) (k : Q (.bl (decide (x ∈ us))) H) : rIn K false (.bl x) (.ref p) H Q :=
  ⟨p, _, rfl, .inl (SqL.of hp), rfl, flat_bl us, by rw [inV_bl]; exact k⟩
theorem w_notInB {x : Bool} {us : List Bool} (hp : H p = some (.lst (us.map V.bl))) (k : Q (.bl (!decide (x ∈ us))) H) : rIn K true (.bl x) (.ref p) H Q :=
  ⟨p, _, rfl, .inl (SqL.of hp), rfl, flat_bl us, by rw [inV_bl]; exact k⟩
end
end Lk
namespace Lk
open PySem PySem.Spec PyProof.Rows L2 TL

/-! ### is, of truth values -/
theorem vbl_beq (a b : Bool) : ((Value.bool a) == (Value.bool b)) = decide (a = b) := by
  by_cases e : a = b
  · subst e
    exact (beq_self_eq_true (Value.bool a)).trans (decide_eq_true (p := a = a) rfl).symm
  · exact (beq_eq_false_iff_ne.mpr fun z => e (Value.bool.inj z)).trans (decide_eq_false e).symm
section
variable {X : Cx}
theorem op_isBl : OpR X (compareOp .Is) (fun x y H Q => ∃ a b, x = .bl a ∧ y = .bl b ∧ Q (.bl (decide (a = b))) H) := by
  intro pins s σ H x y v u Q I rx ry h
  obtain ⟨a, b, rfl, rfl, q⟩ := h
  cases (show v = Value.bool a from rx)
  cases (show u = Value.bool b from ry)
  exact wpAny_is_plain rfl (fin_bl I q (vbl_beq a b).symm)
theorem op_notBl : OpR X (compareOp .IsNot) (fun x y H Q => ∃ a b, x = .bl a ∧ y = .bl b ∧ Q (.bl (!decide (a = b))) H) := by
  intro pins s σ H x y v u Q I rx ry h
  obtain ⟨a, b, rfl, rfl, q⟩ := h
  cases (show v = Value.bool a from rx)
  cases (show u = Value.bool b from ry)
  exact wpAny_isNot_plain rfl (fin_bl I q (congrArg not (vbl_beq a b).symm))
end
def aIsB : R2 := fun x y H Q => ∃ a b, x = .bl a ∧ y = .bl b ∧ Q (.bl (decide (a = b))) H
def aNotB : R2 := fun x y H Q => ∃ a b, x = .bl a ∧ y = .bl b ∧ Q (.bl (!decide (a = b))) H
theorem o_isB {X : Cx} : OpR X (compareOp .Is) aIsB := op_isBl
theorem o_notB {X : Cx} : OpR X (compareOp .IsNot) aNotB := op_notBl
theorem w_isB {a b : Bool} {H : Hp} {Q : VK} (k : Q (.bl (decide (a = b))) H) : aIsB (.bl a) (.bl b) H Q := ⟨a, b, rfl, rfl, k⟩
theorem w_notB {a b : Bool} {H : Hp} {Q : VK} (k : Q (.bl (!decide (a = b))) H) : aNotB (.bl a) (.bl b) H Q := ⟨a, b, rfl, rfl, k⟩
/-! ### tuple(list) -/
def rTupOf (K : PySem.W.Frag) : List V → Hp → VK → Prop := fun xs H Q => ∃ p ys, xs = [.ref p] ∧ ((SqL K H p ys ∧ ∀ l, H l = none → Q (.ref l) (upd H l (.tup ys))) ∨ (SqT K H p ys ∧ Q (.ref p) H))
theorem b_tuple {X : Cx} : CallR X (.type "tuple") (rTupOf X.K) := call_tuple_of
theorem w_tupOf {K : PySem.W.Frag} {H : Hp} {p : Addr} {ys : List V} {Q : VK} (hp : H p = some (.lst ys)) (k : ∀ l, H l = none → Q (.ref l) (upd H l (.tup ys))) : rTupOf K [.ref p] H Q := ⟨p, ys, rfl, .inl ⟨SqL.of hp, k⟩⟩
/-! ### isinstance(o, C) of an own class -/
def rIsC (C : Addr) : List V → Hp → VK → Prop := fun xs H Q => ∃ a dx fs, xs = [.ref a, .ref C] ∧ H a = some (.ins C dx fs) ∧ Q (.bl true) H
theorem b_isC {X : Cx} {C : Addr} (c : C8.InsC X.K C) : CallR X (.builtin "isinstance") (rIsC C) := C8.call_isC c
theorem w_isC {C a dx : Addr} {fs : List (Str × V)} {H : Hp} {Q : VK} (hp : H a = some (.ins C dx fs)) (k : Q (.bl true) H) : rIsC C [.ref a, .ref C] H Q := ⟨a, dx, fs, rfl, hp, k⟩
/-! ### values as data -/
section
variable {K : PySem.W.Frag} {H : Hp} {n m : Nat}
def DV (K : PySem.W.Frag) (H : Hp) (n : Nat) (v : V) (d : PyData) : Prop := Dp K H v d ∧ d.canLay0 = true ∧ d.depth ≤ n
def DvAll (K : PySem.W.Frag) (H : Hp) (n : Nat) (vs : List V) (ds : List PyData) : Prop := DpAll K H vs ds ∧ PyData.canLayAll0 ds = true ∧ PyData.depthAll ds ≤ n
theorem DV.int (i : Int) : DV K H n (.int i) (.int i) := ⟨.int i, by simp [PyData.canLay0], by simp [PyData.depth]⟩
theorem DV.bl (b : Bool) : DV K H n (.bl b) (.bool b) := ⟨.bl b, by simp [PyData.canLay0], by simp [PyData.depth]⟩
theorem DV.str {x : Str} (h : PyData.strOk x = true) : DV K H n (.str x) (.str x) := ⟨.str x, by simp [PyData.canLay0, h], by simp [PyData.depth]⟩
theorem DV.non : DV K H n .non .none := ⟨.non, by simp [PyData.canLay0], by simp [PyData.depth]⟩
theorem DvAll.nil : DvAll K H n [] [] := ⟨.nil, by simp [PyData.canLayAll0], by simp [PyData.depthAll]⟩
theorem DvAll.cons {v : V} {vs : List V} {d : PyData} {ds : List PyData} (h1 : DV K H n v d) (h2 : DvAll K H n vs ds) : DvAll K H n (v :: vs) (d :: ds) :=
  ⟨.cons h1.1 h2.1, by simp [PyData.canLayAll0, h1.2.1, h2.2.1], by have := h1.2.2; have := h2.2.2; simp [PyData.depthAll]; omega⟩
theorem DV.tup {p : Addr} {vs : List V} {ds : List PyData} (hp : H p = some (.tup vs)) (h : DvAll K H n vs ds) : DV K H (n + 1) (.ref p) (.tuple ds) :=
  ⟨.tup (.inl (.inl hp)) h.1, by simp [PyData.canLay0, h.2.1], by have := h.2.2; simp [PyData.depth]; omega⟩
theorem DV.lst {p : Addr} {vs : List V} {ds : List PyData} (hp : H p = some (.lst vs)) (h : DvAll K H n vs ds) : DV K H (n + 1) (.ref p) (.list ds) :=
  ⟨.lst (SqL.of hp) h.1, by simp [PyData.canLay0, h.2.1], by have := h.2.2; simp [PyData.depth]; omega⟩
theorem DvAll.row : ∀ {vs : List V}, vs.all okV = true → DvAll K H n vs (vs.map datV)
  | [], _ => .nil
  | v :: vs, h => by
    rw [List.all_cons, Bool.and_eq_true] at h
    refine .cons ?_ (DvAll.row h.2)
    cases v with
    | int i => exact .int i
    | str x => exact .str h.1
    | bl b => exact .bl b
    | non => exact .non
    | byt b => exact absurd h.1 Bool.false_ne_true
    | flt b => exact absurd h.1 Bool.false_ne_true
    | ref a => exact absurd h.1 Bool.false_ne_true
    | ty n => exact absurd h.1 Bool.false_ne_true
theorem DV.shaped {v : V} {d : PyData} (h : DV K H n v d) (hn : n ≤ 64) : SeqAt.shaped d = true := by
  unfold SeqAt.shaped
  rw [h.2.1, Bool.true_and]
  exact decide_eq_true (Nat.le_trans h.2.2 hn)
theorem w_eqV {x y : V} {d e : PyData} {Q : VK} (h1 : DV K H 10 x d) (h2 : DV K H 10 y e) (k : Q (.bl (PyData.eqv d e)) H) : aEq K x y H Q :=
  .inr ⟨d, e, h1.1, h2.1, h1.shaped (by decide), h2.shaped (by decide), k⟩
end
/-! ### a comprehension over a list whose turns make things -/
section
variable {σ : St} {H : Hp} {g : TG} {tt : TT} {te : TE} {K : PySem.W.Frag} {vs : List Nat} {Q : VK} {α : Type} {f : α → V}
theorem w_lcMG {us : List α} {p : Addr} (J : Addr → Nat → List V → Hp → Prop) (hp : H p = some (.lst (us.map f)))
    (h0 : ∀ D, H D = none → J D 0 [] (upd H D (.lst [])))
    (hs : ∀ (D : Addr) (i : Nat) (u : α) (acc : List V) (H' : Hp), H D = none → us[i]? = some u → acc.length ≤ i → Kp [] H H' → H' D = some (.lst acc) → J D i acc H' → g (f u) (wipe σ vs) H' fun σ2 H2 => wipe σ2 vs = wipe σ vs ∧ tt σ2 H2 fun b H3 =>
      if b = true then te σ2 H3 (gKeep [] H D (J D) (i + 1)) else gNx [] H D (J D) (i + 1) H3)
    (k : ∀ D acc H', H D = none → acc.length ≤ us.length → Kp [] H H' → H' D = some (.lst acc) → J D us.length acc H' → Q (.ref D) H') : aCList K g tt te vs σ Q (.ref p) H :=
  ⟨p, rfl, ⟨_, SqL.of hp⟩, fun D hD => lc_list (K := K) (a := p) (xs := us.map f) (fun i => gNx [] H D (J D) i) ⟨[], Nat.zero_le _, Kp.refl.new hD, upd_same, h0 D hD⟩
    (fun i H' hi q => by
      obtain ⟨acc, _, q2, _⟩ := q
      exact SqL.of (q2.at0 hp)) (fun i x H' hx q => by
      rw [List.getElem?_map] at hx
      cases e : us[i]? with
      | none => rw [e] at hx; cases hx
      | some u =>
        rw [e] at hx
        cases hx
        obtain ⟨acc, q1, q2, q3, q4⟩ := q
        exact hs D i u acc H' hD e q1 q2 q3 q4) (fun H' q => by
      obtain ⟨acc, q1, q2, q3, q4⟩ := q
      rw [List.length_map] at q1 q4
      exact k D acc H' hD q1 q2 q3 q4)⟩
end
/-! ### unlike data -/
theorem eqvAll_len : ∀ {ds es : List PyData}, ds.length ≠ es.length → PyData.eqvAll ds es = false
  | [], [], h => absurd rfl h
  | [], e :: es, _ => by simp [PyData.eqvAll]
  | d :: ds, [], _ => by simp [PyData.eqvAll]
  | d :: ds, e :: es, h => by
    have := eqvAll_len (ds := ds) (es := es) (by simpa using h)
    simp [PyData.eqvAll, this]
theorem strI_ok {i : Int} (h : -1 ≤ i) : PyData.strOk (strI i) = true := by
  by_cases z : i = -1
  · subst z; decide +kernel
  · have hd := numL_digits i.toNat
    unfold PyData.strOk
    rw [Array.all_eq_true_iff_forall_mem]
    intro c hc
    have := hd c (by rw [← tl_strI (show 0 ≤ i by omega)]; exact Array.mem_toList_iff.mpr hc)
    simp; omega
/-! ### sums, all -/
section
variable {K : PySem.W.Frag} {H : Hp} {Q : VK} {p : Addr}
theorem w_sum {ns : List Int} (hp : H p = some (.lst (ns.map V.int))) (k : Q (.int ns.sum) H) : rSum K [.ref p] H Q := ⟨p, ns, rfl, SqL.of hp, k⟩
theorem w_all {bs : List Bool} (hp : H p = some (.lst (bs.map V.bl))) (k : Q (.bl (bs.all id)) H) : rAll K [.ref p] H Q := ⟨p, bs, rfl, SqL.of hp, k⟩
end
theorem w_inIT {i : Int} {us : List Int} {p : Addr} {H : Hp} {Q : VK} {K : PySem.W.Frag} (hp : H p = some (.tup (us.map V.int))) (k : Q (.bl (decide (i ∈ us))) H) : rIn K false (.int i) (.ref p) H Q :=
  ⟨p, _, rfl, .inr (.inl (.inl hp)), rfl, flat_int us, by rw [inV_int]; exact k⟩
end Lk
namespace Lk
open PySem PySem.Spec PyProof.Rows L2

/-! ### methods and comprehensions while an exception is handled -/
section
variable {X : Cx} {k : Nat} {f C : Addr} {ps : List Str} {sp : Sp} {m : Str} {pos apos : Pos} {e o : Expr} {es : List Expr} {ta : TE} {t : TA}
theorem pe_methHS {pl : Sem Bool} (G : FnHA X.prog X.w X.K X.mg X.base k f ps sp) (hr : L2H.RoomH k X.A) (hc : L2H.HotC X) (c : Cls X.K C) (hm : Meth X.K C m f) (he : PE X o ta) (ha : PA X (e :: es) t)
    (hst : starEach (e :: es) X.env = (false, eval e X.env) :: starEach es X.env := by rfl) (hpl : (backTo pos (starEach es X.env)).any (·.1) = false := by rfl) (ht : MTree X pl o m (e :: es) pos apos := by rfl) :
    PE X (.Call (.Attribute o m apos) (e :: es) [] pos) (tMethS X.K C m sp (fun _ => E0) ta t) := by
  obtain ⟨fd, F, b⟩ := G
  exact L2H.pe_methH (pl := pl) he c hm F hr hc b (fun σ => L2N.passAt takes0 σ) ha hst hpl ht
theorem pe_methHS0 {pl : Sem Bool} (G : FnHA X.prog X.w X.K X.mg X.base k f ps sp) (hr : L2H.RoomH k X.A) (hc : L2H.HotC X) (c : Cls X.K C) (hm : Meth X.K C m f) (he : PE X o ta) (ht : MTree X pl o m [] pos apos := by rfl) :
    PE X (.Call (.Attribute o m apos) [] [] pos) (tMethS X.K C m sp (fun _ => E0) ta tNil) := by
  obtain ⟨fd, F, b⟩ := G
  refine ⟨fun pins s σ H Q I h => ?_⟩
  refine PySem.W.methodCall_KW (pl := pl) (thn (he.run pins s σ H _ I h) fun u s1 ⟨x, H1, I1, rx, a, dx, fs, ex, ea, l, q⟩ => ?_) ht
  subst ex
  obtain rfl : u = Value.ref a := rx
  refine getmeth_ok I1 ea c hm l ?_
  exact PySem.W.callWith_K0 (first := [.ref a]) I1.kIn hm.kp (L2H.run_fnH (E := fun _ => E0) (us := [.ref a]) (vs := [.ref a]) F hr hc b (L2N.passAt takes0 σ) I1 (.cons rfl .nil) q)
end
/-- a list's iterator comes to its end, the handled exception standing aside -/
theorem list_stop {prog : Program} {w : World} {A : Around} {E : Value → Shared → Prop} {s : Shared} {it l x1 : Addr} {i : Nat} {items : Array Value} {Q : Option Value → Shared → Prop} (hot : HotX.HotAt A x1 s.heap) (hne : x1 ≠ it) (hit : s.heap.IsListIter it l i) (hl : s.heap.IsList l items) (hx : items[i]? = none)
    (hQ : ∀ h', (∀ b o, b ≠ it → s.heap.get? b = some o → h'.get? b = some o) → Q none { s with heap := h' }) : wpAny (model prog w) A (pyNext (.ref it)) Q E s := by
  obtain ⟨oi, hoi, hci, hdi⟩ := id hit
  obtain ⟨ol, hol, _, nl, hdl⟩ := hl
  obtain ⟨hh, o1, vs1, h1, d1, c1⟩ := hot
  unfold pyNext
  refine wpAny_bind (wpAny_attempt (wpAny_callSpecial?_slot (name := Str.ofString "__next__") hit.typeIs slot_listiter_next
    (wpAny_call_entry slot_listiter_next hit.typeIs entry_listiter_next ?_ (args_listiter_next _))))
  show wpAny _ _ (field (.ref it) 0 >>= _) _ _ s
  refine wpAny_bind (wpAny_field hoi hdi (x := .ref l) rfl ?_)
  show wpAny _ _ (if (Value.ref l == Value.none) = true then _ else _) _ _ s
  rw [if_neg (show ¬ ((Value.ref l == Value.none) = true) from Bool.false_ne_true)]
  show wpAny _ _ (field (.ref it) 1 >>= _) _ _ s
  refine wpAny_bind (wpAny_field hoi hdi (x := .int i 0) rfl ?_)
  show wpAny _ _ (seqItems? (.ref l) >>= _) _ _ s
  refine wpAny_bind (wpAny_seqItems hol hdl ?_)
  simp only [Int.toNat_natCast, hx]
  refine wpAny_bind (wpAny_rule (wpAny_bind (wpAny_setField hoi hdi (by simp) ?_)))
  show wpAny _ _ (newExc (.type "StopIteration") [] >>= _) _ _ _
  refine wpAny_bind ?_
  simp only [newExc, newTuple]
  refine wpAny_bind (wpAny_newObj_type ?_ (by size_fits))
  refine wpAny_bind (m := firstArgMember _ _) (wpAny_of_eq (a := Value.none) (by first | rfl | (simp only [firstArgMember]; rfl)) ?_)
  refine wpAny_newObj_type ?_ (by size_fits)
  have q1 := (Heap.get?_update_other s.heap (Obj.mapFields (·.setIfInBounds 0 .none)) (Ne.symm hne)).trans h1
  refine HotX.raiseNew_hot ⟨hh, o1, vs1, Heap.get?_push_of_some _ (Heap.get?_push_of_some _ q1), d1, c1⟩ (Nat.ne_of_lt (Heap.lt_size (Heap.get?_push_of_some _ q1))) (Heap.get?_push_size _ rfl) rfl (by first | (simp; done) | (simp; omega) | (simp only [Array.size_append]; simp; omega)) ?_
  refine wpAny_bind (wpAny_isInstance (T := "StopIteration") (b := true) ⟨_, Heap.get?_update_self _ (Heap.get?_push_size _ rfl) rfl, rfl⟩ isSubtype_stop ?_)
  refine wpAny_pure (hQ _ fun b u hb e => ?_)
  have q2 := (Heap.get?_update_other s.heap (Obj.mapFields (·.setIfInBounds 0 .none)) (Ne.symm hb)).trans e
  rw [Heap.get?_update_other _ _ (Nat.ne_of_gt (Heap.lt_size (Heap.get?_push_of_some _ q2)))]
  exact Heap.get?_push_of_some _ (Heap.get?_push_of_some _ q2)
open L2H in
theorem turn_listH {P : Program} {w : World} {K : PySem.W.Frag} {tg : Expr} (a it : Addr) : TurnH P w K tg (Itl K a) [it] it (fun i h => h.IsListIter it a i) := by
  have T : Turn P w K tg (Itl K a) [it] it (fun i h => h.IsListIter it a i) := turn_list a it
  refine ⟨T.mem, T.obj, T.keep, ?_, ?_, T.self⟩
  · intro X hP hw hK hc i pins s σ H E I hf st hg
    subst hP hw hK
    obtain ⟨xs, x, hq, hx⟩ := hg
    obtain ⟨its, rv, p, hz⟩ := I.list hq
    obtain ⟨u, hu, ru⟩ := rv.get hx
    obtain ⟨f0, f1, f2, f3, f4, f5⟩ := hf it (by simp)
    refine wpAny_pyNext_list_item st p.isList (x := u) (by simpa using hu) fun h' st' sb => ⟨u, rfl, ?_⟩
    have I1 := I.turned (t' := s.toks) (fun b o hb e => (sb.2 b hb).trans e) f0 f1 f3 f4 f5
    obtain ⟨oi, e, c, d⟩ := id st'
    exact go_of (s := { s with heap := h' }) e c d (by decide) ⟨x, H, I1, ru, ⟨rfl, fun ys hy => by rw [I.list_inj hy hq]; exact hx⟩, st', fun b hb => (hf b hb).1⟩
  · intro X hP hw hK hc i pins s σ H E I hf st hg
    subst hP hw hK
    obtain ⟨xs, hq, hx⟩ := hg
    obtain ⟨its, rv, p, hz⟩ := I.list hq
    have hl := rv.length
    obtain ⟨f0, f1, f2, f3, f4, f5⟩ := hf it (by simp)
    obtain ⟨x1, ⟨hh, v1, e1, c1⟩, hp⟩ := hc
    have hp := List.mem_append_left pins hp
    exact list_stop ⟨hh, x1.2, v1, (I.pin x1 hp).1, e1, c1⟩ (f5 x1 hp) st p.isList (by simp; omega) fun h' eb => ⟨rfl, I.turned (t' := s.toks) eb f0 f1 f3 f4 f5⟩
section
variable {X : Cx} {tg : Expr}
theorem pi_listH {l : Expr} {tl : TE} (hl : PE X l tl) : L2H.PIH X tg l (iList X.K tl) := by
  refine ⟨fun pins s σ H R I h => thn (hl.run pins s σ H _ I h) fun v s1 ⟨x, H1, I1, r1, a, e, ⟨xs, hq⟩, q⟩ => ?_⟩
  subst e
  cases r1
  obtain ⟨its, rv, p, hz⟩ := I1.list hq
  refine wpAny_pyIter_list p.isList ⟨s1.heap.objs.size, [s1.heap.objs.size], _, _, H1, rfl, I1.kept (t' := s1.toks) fun b o e => Heap.get?_push_of_some _ e, turn_listH a _, ⟨_, Heap.get?_push_size _ rfl, rfl, rfl⟩, fun b hb => ?_, q⟩
  rw [List.mem_singleton.mp hb]
  exact I1.fpOk (Nat.le_refl _) (I1.hok.fresh (Nat.le_refl _))
theorem pi_range2H {a b : Expr} {ta : TA} {p pos : Pos} (hg : Gl X "range") (hm : X.mg "range" = none) (ha : PA X [a, b] ta) (hs : starEach [a, b] X.env = [(false, eval a X.env), (false, eval b X.env)] := by rfl) (hs2 : starEach [b] X.env = [(false, eval b X.env)] := by rfl) :
    L2H.PIH X tg (.Call (.Name "range" p) [a, b] [] pos) (iRng2 ta) := by
  refine ⟨fun pins s σ H R I h => ?_⟩
  refine Call_ (ld_blt I hg hm boot_range (PyProof.Rows.callWith_type1 (thn (ha.run pos pins s σ H _ I h) fun us s1 ⟨vs, H1, I1, r1, q1⟩ => ?_) (by rw [hs, hs2]) (by rw [hs2]; rfl)))
  obtain ⟨i, j, e, ⟨q1, q2, q3, q4⟩, q⟩ := q1
  subst e
  cases r1 with
  | cons r rr =>
    cases rr with
    | cons r' rr =>
      cases rr
      obtain ⟨t, rfl⟩ := r
      obtain ⟨t', rfl⟩ := r'
      exact call_range_2 (L2H.range_itH I1 q1 q2 q3 q4 q)
end
/-- the block of a comprehension that keeps the pins of the def -/
abbrev blkH (X : Cx) (s : Shared) (H : Hp) (scope : Scope) (cenv : Env) (fp : List Addr) : Cx := { X.blk s H scope cenv fp with pn := X.pn }
abbrev newC (s : Shared) (scope : Scope) (env : Env) : Env := compEnvC scope (cellsFrom (s.heap.objs.size + 1) scope.names (cloFrom env.cells scope.names [])) s.heap.objs.size env
theorem blkH_start {X : Cx} {pins : List (Addr × Obj)} {σ : St} {H : Hp} {s : Shared} {scope : Scope} {own : List (Str × Nat)} {fp : List Addr} (I : Inv X pins σ H s) (ok : BlkOk X.N X.env.scope scope own) (hN : X.N.Nodup) (hfp : ∀ b ∈ fp, FpOk X pins H b ∧ b < s.heap.objs.size) :
    Inv (blkH X s H scope (newC s scope X.env) fp) [] (wipe σ (own.map (·.2))) H { s with heap := pushCells (s.heap.push { cls := .type "dict", data := .dict #[] }) scope.names } := by
  have J := block_start I ok hN hfp
  have O := J.ok
  refine ⟨⟨O.mod, O.kind, O.glob, O.blt, O.above, O.inj, O.has, O.cab, O.hd, O.frames, O.stk, O.exf, O.bs, O.bsz, O.noex, O.exfs, O.funs, O.frf⟩, J.os, J.bare, J.base, J.loc, J.cell, J.free, J.freeC, fun p hp => ?_, J.hok, J.len⟩
  have hp : p ∈ X.pn := by simpa using hp
  obtain ⟨p1, p2, p3, p4, p5⟩ := I.pin p (List.mem_append_left _ hp)
  refine ⟨pushCells_keeps _ _ _ _ (Heap.get?_push_of_some _ p1), p2, Nat.ne_of_lt (Heap.lt_size p1), fun z => ?_, p5⟩
  rcases List.mem_cons.mp (I.stkSub p.1 z) with y | y
  · exact p3 y
  · exact p4 y
/-- the block's context still bears the handled exception -/
theorem hotBlk {X : Cx} {s : Shared} {H : Hp} {scope : Scope} {cenv : Env} {fp : List Addr} (hc : L2H.HotC X) : L2H.HotC (blkH X s H scope cenv fp) := hc
section
variable {X : Cx} {elt tg iter : Expr} {ifs : List Expr} {scope : Scope} {own : List (Str × Nat)} {pos pos' : Pos} {wi : TI} {g : TG} {tt : TT} {te : TE}
/-- the turns of the block's loop -/
theorem lcH_loop {s : Shared} {σ : St} {H : Hp} {Q : VK} {R : Result → Shared → Prop} {fp : List Addr} {it D : Addr} {tn : Nat → Heap → Prop} {J : It} {cenv : Env} {s' : Shared} (hc : L2H.HotC X)
    (T : L2H.TurnH X.prog X.w X.K tg J fp it tn) (I0 : Inv (blkH X s H scope cenv fp) [] (wipe σ (own.map (·.2))) H s') (st0 : tn 0 s'.heap) (free0 : ∀ b ∈ fp, H b = none)
    (pg : PG (blkH X s H scope cenv fp) tg g) (pt : PTs (blkH X s H scope cenv fp) ifs tt) (pe : PE (blkH X s H scope cenv fp) elt te) (far : ∀ b ∈ fp, ∀ p ∈ X.pn, p.1 ≠ b)
    {W : Nat → Nat → Hp → Prop} {m0 : Nat} (w0 : W 0 m0 H)
    (turn : ∀ i m H, W i m H → (J.stop i H ∧ Q (.ref D) H) ∨ (J.go i H ∧ ∃ Nx : Hp → Prop, (∀ H', Nx H' → ∃ m', m' < m ∧ W (i + 1) m' H') ∧ ∀ x H', J.yld i H x H' → g x (wipe σ (own.map (·.2))) H' fun σ2 H2 => wipe σ2 (own.map (·.2)) = wipe σ (own.map (·.2)) ∧ tt σ2 H2 fun b H3 =>
      if b = true then te σ2 H3 fun y H4 => ∃ acc, H4 D = some (.lst acc) ∧ acc.length < sizeLine ∧ Nx (upd H4 D (.lst (acc ++ [y]))) else Nx H3))
    (fin : ∀ H' s1, Inv (blkH X s H scope cenv fp) [] (wipe σ (own.map (·.2))) H' s1 → Q (.ref D) H' → R (.ok .next) s1) :
    codeAny (model X.prog X.w) X.A (.compLoop (.ListComp elt [⟨tg, iter, ifs, 0⟩] scope pos) 0 (.ref it) (.ref D) cenv) R s' := by
  have aside : ∀ {σ1 : St} {H1 : Hp} {s1 : Shared}, Inv (blkH X s H scope cenv fp) [] σ1 H1 s1 → (∀ b ∈ fp, H1 b = none) → ∀ b ∈ fp, FpOk (blkH X s H scope cenv fp) [] H1 b := fun {σ1 H1 s1} I1 h1 b hb =>
    ⟨h1 b hb, (I1.ok.exf b hb).1, I1.ok.exfs b hb, .inl hb, (I1.ok.exf b hb).2, fun p hp => far b hb p (by simpa using hp)⟩
  refine compLoop_any (fun n s1 => ∃ i H1, Inv (blkH X s H scope cenv fp) [] (wipe σ (own.map (·.2))) H1 s1 ∧ tn i s1.heap ∧ (∀ b ∈ fp, H1 b = none) ∧ W i n H1) ?_ m0 ⟨0, H, I0, st0, free0, w0⟩
  rintro n s1 ⟨i, H1, I1, st1, fr1, w1⟩
  rcases turn i n H1 w1 with ⟨stop, qq⟩ | ⟨go, Nx, hNx, step⟩
  · refine thnF (T.done (blkH X s H scope cenv fp) rfl rfl rfl (hotBlk hc) i [] s1 _ H1 (fun _ _ => False) I1 (aside I1 fr1) st1 stop) fun r s2 ⟨hr, I2⟩ => ?_
    subst hr
    exact fin H1 s2 I2 qq
  · refine thnF (T.item (blkH X s H scope cenv fp) rfl rfl rfl (hotBlk hc) i [] s1 _ H1 (fun _ _ => False) I1 (aside I1 fr1) st1 go) fun r s2 ⟨u, hr, h2⟩ => ?_
    subst hr
    refine thnF h2 fun _ s3 ⟨x, H3, I3, r3, y3, st3, fr3⟩ => ?_
    refine thnF (pg.run _ s3 _ H3 x u _ (I3.pinned (aside I3 fr3) (T.obj _ _ st3)) r3 (step x H3 y3)) fun _ s4 ⟨σ4, H4, I4, e4, q4⟩ => ?_
    refine thnF (pt.run _ s4 σ4 H4 _ I4 q4) fun b s5 ⟨H5, I5, q5⟩ => ?_
    have next : ∀ {s6 : Shared} {H6 : Hp}, Inv (blkH X s H scope cenv fp) ([] ++ pinsAt fp s3.heap) σ4 H6 s6 → Nx H6 → ∃ m, m < n ∧ ∃ i H1, Inv (blkH X s H scope cenv fp) [] (wipe σ (own.map (·.2))) H1 s6 ∧ tn i s6.heap ∧ (∀ b ∈ fp, H1 b = none) ∧ W i m H1 := fun {s6 H6} I6 nx => by
      obtain ⟨m', hm, w'⟩ := hNx H6 nx
      have still : ∀ b ∈ fp, ∀ o, s3.heap.get? b = some o → s6.heap.get? b = some o ∧ H6 b = none := fun b hb o e =>
        ⟨(I6.pin (b, o) (List.mem_append_right _ (List.mem_append_right _ (mem_pinsAt hb e)))).1, (I6.pin (b, o) (List.mem_append_right _ (List.mem_append_right _ (mem_pinsAt hb e)))).2.1⟩
      refine ⟨m', hm, i + 1, H6, (I6.unpinned (pins := [])).weak (by rw [← e4, wipe_length]) (fun j v e => ?_), T.keep _ _ _ st3 fun b hb o e => (still b hb o e).1, fun b hb => ?_, w'⟩
      · rw [← e4] at e; exact (wipe_some e).1
      · obtain ⟨o, e, _⟩ := T.obj _ _ st3 b hb
        exact (still b hb o e).2
    cases b with
    | false =>
      simp only [Bool.false_eq_true, if_false] at q5 ⊢
      exact next I5 q5
    | true =>
      simp only [if_true] at q5 ⊢
      refine thnF (pe.run _ s5 σ4 H5 _ I5 q5) fun z s6 ⟨yv, H6, I6, r6, acc, hD, hz, nx⟩ => ?_
      exact app_ok (X := blkH X s H scope cenv fp) I6 hD hz r6 fun s7 I7 => next I7 nx
/-- [..] while an exception is handled -/
theorem lcH_core {pins : List (Addr × Obj)} {s : Shared} {σ : St} {H : Hp} {Q : VK} {use : Option (Value → Sem Unit)} {Qf : Value → Shared → Prop} (hc : L2H.HotC X) (hN : X.N.Nodup) (I : Inv X pins σ H s) (hi : L2H.PIH X tg iter wi) (ok : BlkOk X.N X.env.scope scope own)
    (hg : ∀ (s : Shared) (H : Hp) (C : Addr) (cl : List (Str × Addr)) (fp : List Addr), PG (blkH X s H scope (compEnvC scope cl C X.env) fp) tg g) (ht : ∀ (s : Shared) (H : Hp) (C : Addr) (cl : List (Str × Addr)) (fp : List Addr), PTs (blkH X s H scope (compEnvC scope cl C X.env) fp) ifs tt)
    (he : ∀ (s : Shared) (H : Hp) (C : Addr) (cl : List (Str × Addr)) (fp : List Addr), PE (blkH X s H scope (compEnvC scope cl C X.env) fp) elt te) (hs : ∀ x, foldedSetIterable iter X.env x = pure x)
    (h : tLc wi g tt te (own.map (·.2)) σ H Q)
    (out : ∀ D C s' m H', Inv X pins σ H' s' → Q (.ref D) H' → s'.heap.Ns C m → FpOk X pins H' C → compPost (model X.prog X.w) X.A X.xe use Qf (.ref D) C (.ok .next) s') :
    wpAny (model X.prog X.w) X.A (comprehension (.ListComp elt [⟨tg, iter, ifs, 0⟩] scope pos) scope X.env pos' (newList []) false (eval iter X.env) use) Qf X.xe s := by
  refine wpAny_comprehension_free (use := use) rfl hs (closure_ok fun y hy e => (ok.free y hy e).elim (fun k => I.ok.has _ (.inl k)) fun k => I.ok.has _ (.inr k)) ok.kind (fun y hy e => by rw [ok.uniq y hy, e])
    (thn (hi.run pins s σ H _ I h) fun xv s1 hx => thn hx fun itv s2 ⟨it, fp, tn, J, H2, e, I2, T, st2, f2, q⟩ => ?_)
  subst e
  refine wpAny_newObj_type (newEnv_comp ?_) (by show 0 ≤ sizeLine; decide)
  have hDn : H2 s2.heap.objs.size = none := I2.hok.fresh (Nat.le_refl _)
  obtain ⟨W, ⟨m0, w0⟩, turn⟩ := q _ hDn
  have I3 : Inv X pins σ (upd H2 s2.heap.objs.size (.lst [])) { s2 with heap := s2.heap.push { cls := .type "list", data := .seq ([] : List Value).toArray } } :=
    I2.laid (t' := s2.toks) (fun b o e => Heap.get?_push_of_some _ e) (Nat.le_refl _) ⟨Nat.zero_le _, [], 0, .nil, Heap.get?_push_size _ rfl⟩
  have lt2 : ∀ b ∈ fp, b < s2.heap.objs.size := fun b hb => let ⟨o, e, _⟩ := T.obj _ _ st2 b hb; Heap.lt_size e
  have nfp : ∀ b ∈ fp, (upd H2 s2.heap.objs.size (.lst [])) b = none := fun b hb => by rw [upd_ne (Nat.ne_of_lt (lt2 b hb))]; exact (f2 b hb).1
  have st3 : tn 0 (s2.heap.push { cls := .type "list", data := .seq ([] : List Value).toArray }) := T.keep _ _ _ st2 fun b _ o e => Heap.get?_push_of_some _ e
  have sz3 : (s2.heap.push { cls := .type "list", data := .seq ([] : List Value).toArray }).objs.size = s2.heap.objs.size + 1 := Heap.size_push ..
  have f3 : ∀ b ∈ fp, FpOk X pins (upd H2 s2.heap.objs.size (.lst [])) b ∧ b < (s2.heap.push { cls := .type "list", data := .seq ([] : List Value).toArray }).objs.size := fun b hb =>
    ⟨⟨nfp b hb, (f2 b hb).2⟩, by rw [sz3]; exact Nat.lt_succ_of_lt (lt2 b hb)⟩
  generalize hs3 : ({ s2 with heap := s2.heap.push { cls := .type "list", data := .seq ([] : List Value).toArray } } : Shared) = s3 at I3 ⊢
  have h3 : s2.heap.push { cls := .type "list", data := .seq ([] : List Value).toArray } = s3.heap := by rw [← hs3]
  rw [h3] at st3 f3
  have I4 := blkH_start I3 ok hN f3
  have st4 : tn 0 (pushCells (s3.heap.push { cls := .type "dict", data := .dict #[] }) scope.names) := T.keep _ _ _ st3 fun b _ o e => pushCells_keeps _ _ _ _ (Heap.get?_push_of_some _ e)
  have loop := lcH_loop (R := compPost (model X.prog X.w) X.A X.xe use Qf (.ref s2.heap.objs.size) s3.heap.objs.size) (iter := iter) (pos := pos) hc T I4 st4 nfp (hg _ _ _ _ _) (ht _ _ _ _ _) (he _ _ _ _ _) (fun b hb p hp => (f3 b hb).1.2.2.2.2.2 p (List.mem_append_left _ hp)) w0 turn fun H' s5 I5 q5 => by
    have I7 : Inv X pins σ H' s5 := I3.call' (ch := fp) I5.os I5.base I5.hok I5.bare fun b hb => ⟨(f3 b hb).1.2.2.2.1, (f3 b hb).1.2.1, (f3 b hb).1.2.2.2.2.1, (f3 b hb).1.2.2.2.2.2⟩
    obtain ⟨m, hn, _⟩ := I5.loc
    exact out _ s3.heap.objs.size s5 m H' I7 q5 hn (I3.fpOk (Nat.le_refl _) I5.free)
  exact codeAny_compStart_list loop (T.self X.A 0 _ _ _ st4 loop)
theorem pe_lcH (hc : L2H.HotC X) (hN : X.N.Nodup) (hi : L2H.PIH X tg iter wi) (ok : BlkOk X.N X.env.scope scope own)
    (hg : ∀ (s : Shared) (H : Hp) (C : Addr) (cl : List (Str × Addr)) (fp : List Addr), PG (blkH X s H scope (compEnvC scope cl C X.env) fp) tg g) (ht : ∀ (s : Shared) (H : Hp) (C : Addr) (cl : List (Str × Addr)) (fp : List Addr), PTs (blkH X s H scope (compEnvC scope cl C X.env) fp) ifs tt)
    (he : ∀ (s : Shared) (H : Hp) (C : Addr) (cl : List (Str × Addr)) (fp : List Addr), PE (blkH X s H scope (compEnvC scope cl C X.env) fp) elt te) (hs : ∀ x, foldedSetIterable iter X.env x = pure x := by intro _; rfl) :
    PE X (.ListComp elt [⟨tg, iter, ifs, 0⟩] scope pos) (tLc wi g tt te (own.map (·.2))) := by
  refine ⟨fun pins s σ H Q I h => ?_⟩
  rw [eval_ListComp]
  refine lcH_core hc hN I hi ok hg ht he hs h fun D C s' m H' I' q hn ⟨f0, f1, f2, f3, f4, f5⟩ => ⟨m, hn, fun h2 sb => ?_⟩
  exact ⟨.ref D, H', I'.turned (t' := s'.toks) (fun b o hb e => (sb.2 b hb).trans e) f0 f1 f3 f4 f5, rfl, q⟩
/-- name = [..] on one line, the name a local -/
theorem ps_setLcH {i : Nat} {y : Str} {py spos : Pos} (hc : L2H.HotC X) (hN : X.N.Nodup) (hy : X.N[i]? = some y) (hyl : X.env.scope.names.lookup y = some .local)
    (hsw : swapsWith (.ListComp elt [⟨tg, iter, ifs, 0⟩] scope pos) (some (.Name y py)) spos.line X.env = pure true) (hi : L2H.PIH X tg iter wi) (ok : BlkOk X.N X.env.scope scope own)
    (hg : ∀ (s : Shared) (H : Hp) (C : Addr) (cl : List (Str × Addr)) (fp : List Addr), PG (blkH X s H scope (compEnvC scope cl C X.env) fp) tg g) (ht : ∀ (s : Shared) (H : Hp) (C : Addr) (cl : List (Str × Addr)) (fp : List Addr), PTs (blkH X s H scope (compEnvC scope cl C X.env) fp) ifs tt)
    (he : ∀ (s : Shared) (H : Hp) (C : Addr) (cl : List (Str × Addr)) (fp : List Addr), PE (blkH X s H scope (compEnvC scope cl C X.env) fp) elt te) (hs : ∀ x, foldedSetIterable iter X.env x = pure x := by intro _; rfl) :
    PS X (.Assign [.Name y py] (.ListComp elt [⟨tg, iter, ifs, 0⟩] scope pos) spos) (tAsg (tLc wi g tt te (own.map (·.2))) (gName i)) := by
  refine ⟨fun pins s σ H D I h => ?_⟩
  rw [exec_Assign_Name_used _ _ _ _ hsw]
  refine wpAny_bind (wpAny_standAt (wpAny_bind ?_))
  show wpAny _ X.A (do let _ ← comprehension (.ListComp elt [⟨tg, iter, ifs, 0⟩] scope pos) scope X.env (firstIterPos [⟨tg, iter, ifs, 0⟩] pos) (newList []) false (eval iter X.env) (some (assign (.Name y py) X.env))) _ _ s
  have h : tLc wi g tt te (own.map (·.2)) σ H (fun x H1 => gName i x σ H1 D.nx) := h
  refine wpAny_bind (thn (lcH_core (Qf := fun _ s' => SP X pins D .next s') hc hN I hi ok hg ht he hs h fun L C s' m H' I' q hn ⟨f0, f1, f2, f3, f4, f5⟩ => ?_) fun _ s' hq => wpAny_pure (wpAny_pure hq))
  show wpAny _ _ (assign (.Name y py) X.env (.ref L)) _ _ _
  refine wpAny_assign_Name (store_ok2 (v := V.ref L) I' hN hy (.inl hyl) rfl (fun s2 I2 ⟨a, sb, ha⟩ => ⟨m, hn.sameBut sb ?_, fun h3 sb3 => ⟨_, H', I2.turned (t' := s2.toks) (fun b o hb e => (sb3.2 b hb).trans e) f0 f1 f3 f4 f5, q⟩⟩) (.inr hyl))
  rcases ha with z | z
  · rw [z]; exact f1
  · exact fun e => f4 y a z e.symm
end
end Lk
namespace Lk
open PySem PySem.Spec PyProof.Rows L2

/-! ### dicts -/
theorem hu0 {u : Nat} (h : u + 64 < cLine) : u < cLine := by omega
theorem hu1 {u : Nat} (h : u + 64 < cLine) : u + 1 < cLine := by omega
def aDIn (x y : V) (H : Hp) (Q : VK) : Prop := ∃ a o, y = .ref a ∧ DGet H a x o ∧ Q (.bl o.isSome) H
def aDNin (x y : V) (H : Hp) (Q : VK) : Prop := ∃ a o, y = .ref a ∧ DGet H a x o ∧ Q (.bl (!o.isSome)) H
def aDGet (x y : V) (H : Hp) (Q : VK) : Prop := ∃ a v, x = .ref a ∧ DGet H a y (some v) ∧ Q v H
def aDPut (x y v : V) (H : Hp) (k : Hp → Prop) : Prop := ∃ a H', x = .ref a ∧ DPut H a y v H' ∧ k H'
section
variable {σ : L2.St} {H : Hp} {Q : VK} {D : Ends} {td ty tv : TE}
theorem s_dnew (k : ∀ p, H p = none → Q (.ref p) (upd H p (.dK []))) : tDNewK σ H Q := k
theorem s_dnewT (k : ∀ p, H p = none → Q (.ref p) (upd H p (.dT []))) : tDNewT σ H Q := k
theorem s_din (k : ty σ H fun y H1 => td σ H1 fun x H2 => aDIn y x H2 Q) : tDIn ty td σ H Q := k
theorem s_dnin (k : ty σ H fun y H1 => td σ H1 fun x H2 => aDNin y x H2 Q) : tDNotIn ty td σ H Q := k
theorem s_dget (k : td σ H fun x H1 => ty σ H1 fun y H2 => aDGet x y H2 Q) : tDGet td ty σ H Q := k
theorem s_dput (k : tv σ H fun v H1 => td σ H1 fun x H2 => ty σ H2 fun y H3 => aDPut x y v H3 (D.nx σ)) : sDPut td ty tv D σ H := k
end
/-- a dict whose keys are the numbers us, each with the value v -/
def dkS (v : V) (us : List Int) : List (Key × V) := us.map fun u => (Sum.inl u, v)
def insU (us : List Int) (i : Int) : List Int := if i ∈ us then us else us ++ [i]
theorem dkS_val (v : V) (us : List Int) (i : Int) : valV (dkS v us) (Sum.inl i) = if i ∈ us then some v else none := by
  induction us with
  | nil => rfl
  | cons u us ih =>
    unfold dkS at ih ⊢
    rw [List.map_cons]
    by_cases c : u = i
    · subst c
      rw [valV_pos rfl, if_pos List.mem_cons_self]
    · rw [valV_neg (fun z => c (Sum.inl.inj z)), ih]
      by_cases d : i ∈ us
      · rw [if_pos d, if_pos (List.mem_cons_of_mem _ d)]
      · rw [if_neg d, if_neg (fun z => (List.mem_cons.mp z).elim (fun y => c y.symm) d)]
theorem dkS_put (v : V) (us : List Int) (i : Int) : putK (dkS v us) (Sum.inl i) v = dkS v (insU us i) := by
  unfold insU
  by_cases d : i ∈ us
  · rw [if_pos d]
    unfold putK
    rw [valV_any, dkS_val, if_pos d, if_pos (show (some v).isSome = true from rfl)]
    unfold dkS
    rw [List.map_map]
    apply List.map_congr_left
    intro u hu
    show (if (Sum.inl u : Key) = Sum.inl i then ((Sum.inl u : Key), v) else (Sum.inl u, v)) = _
    split <;> rfl
  · rw [if_neg d, putK_new v (by rw [dkS_val, if_neg d])]
    unfold dkS
    rw [List.map_append]; rfl
section
variable {H : Hp} {Q : VK} {a : Addr} {us : List Int} {i : Int} {v : V}
theorem w_dinI (hp : H a = some (.dK (dkS v us))) (k : Q (.bl (decide (i ∈ us))) H) : aDIn (.int i) (.ref a) H Q :=
  ⟨a, _, rfl, DGet.k (k := Sum.inl i) hp, by
    rw [dkS_val]
    by_cases c : i ∈ us
    · rw [if_pos c]; rw [decide_eq_true c] at k; exact k
    · rw [if_neg c]; rw [decide_eq_false c] at k; exact k⟩
theorem w_dninI (hp : H a = some (.dK (dkS v us))) (k : Q (.bl (!decide (i ∈ us))) H) : aDNin (.int i) (.ref a) H Q :=
  ⟨a, _, rfl, DGet.k (k := Sum.inl i) hp, by
    rw [dkS_val]
    by_cases c : i ∈ us
    · rw [if_pos c]; rw [decide_eq_true c] at k; exact k
    · rw [if_neg c]; rw [decide_eq_false c] at k; exact k⟩
theorem w_dputI {k : Hp → Prop} (hp : H a = some (.dK (dkS v us))) (hl : us.length < sizeLine) (q : k (upd H a (.dK (dkS v (insU us i))))) : aDPut (.ref a) (.int i) v H k :=
  ⟨a, _, rfl, DPut.k (k := Sum.inl i) hp (by unfold dkS; rw [List.length_map]; exact hl), by rw [dkS_put]; exact q⟩
end
theorem insU_len (us : List Int) (i : Int) : (insU us i).length ≤ us.length + 1 := by
  unfold insU
  split
  · omega
  · rw [List.length_append]; simp
theorem insU_mem {us : List Int} {i u : Int} : u ∈ insU us i ↔ u ∈ us ∨ u = i := by
  unfold insU
  by_cases c : i ∈ us
  · rw [if_pos c]
    exact ⟨.inl, fun h => h.elim id fun z => z ▸ c⟩
  · rw [if_neg c, List.mem_append, List.mem_singleton]
/-! ### list.pop(i) -/
section
variable {H : Hp} {Q : VK} {p : Addr}
theorem w_pop0 {us : List Int} {u : Int} {rest : List Int} (hp : H p = some (.lst (us.map V.int))) (e : us = u :: rest) (k : Q (.int u) (upd H p (.lst (rest.map V.int)))) : rPopAt (.ref p) [.int 0] H Q := by
  subst e
  refine ⟨p, _, 0, 0, .int u, rfl, rfl, hp, by omega, by omega, ?_, rfl, ?_⟩
  · simp [seqIndex?]
  · exact k
theorem w_popM {us : List Int} (hp : H p = some (.lst (us.map V.int))) (hl : 0 < us.length) (k : Q (.int (us.getD 0 default)) (upd H p (.lst ((us.drop 1).map V.int)))) : rPopAt (.ref p) [.int 0] H Q := by
  cases us with
  | nil => exact absurd hl (by simp)
  | cons u rest => exact w_pop0 hp rfl k
end
/-- a test that is a truth value of the kit -/
theorem s_tB {t : TE} {σ : L2.St} {H : Hp} {Q : Bool → Hp → Prop} (k : t σ H fun x H1 => aB x H1 Q) : tB t σ H Q := k
/-! ### tuple + tuple -/
theorem mapNe {α β : Type} {f : α → β} {us : List α} (h : us ≠ []) : us.map f ≠ [] := fun z => h (List.map_eq_nil_iff.mp z)
theorem w_catT {K : PySem.W.Frag} {H : Hp} {Q : VK} {a b : Addr} {xs ys : List V} (ha : H a = some (.tup xs)) (hb : H b = some (.tup ys)) (hx : xs ≠ []) (hy : ys ≠ []) (hz : xs.length + ys.length ≤ sizeLine) (k : ∀ p, H p = none → Q (.ref p) (upd H p (.tup (xs ++ ys)))) : rCatT K (.ref a) (.ref b) H Q :=
  ⟨a, b, xs, ys, rfl, rfl, .inl (.inl ha), .inl (.inl hb), hx, hz, fun z => absurd z hy, fun _ p hp => k p hp⟩
/-! ### loops over tuples, also while an exception is handled -/
theorem tup_stop {prog : Program} {w : World} {A : Around} {E : Value → Shared → Prop} {s : Shared} {it t x1 : Addr} {i : Nat} {items : Array Value} {Q : Option Value → Shared → Prop} (hot : HotX.HotAt A x1 s.heap) (hne : x1 ≠ it) (hit : s.heap.IsTupleIter it t i) (ht : s.heap.IsTuple t items) (hx : items[i]? = none)
    (hQ : ∀ h', (∀ b o, b ≠ it → s.heap.get? b = some o → h'.get? b = some o) → Q none { s with heap := h' }) : wpAny (model prog w) A (pyNext (.ref it)) Q E s := by
  obtain ⟨oi, hoi, hci, hdi⟩ := id hit
  obtain ⟨ol, hol, _, nl, hdl⟩ := ht
  obtain ⟨hh, o1, vs1, h1, d1, c1⟩ := hot
  unfold pyNext
  refine wpAny_bind (wpAny_attempt (wpAny_callSpecial?_slot (name := Str.ofString "__next__") hit.typeIs F.slot_tuple_iterator_next
    (wpAny_call_entry F.slot_tuple_iterator_next hit.typeIs F.entry_tuple_iterator_next ?_ (F.args_tuple_iterator_next_1 _))))
  show wpAny _ _ (field (.ref it) 0 >>= _) _ _ s
  refine wpAny_bind (wpAny_field hoi hdi (x := .ref t) rfl ?_)
  show wpAny _ _ (if (Value.ref t == Value.none) = true then _ else _) _ _ s
  rw [if_neg (show ¬ ((Value.ref t == Value.none) = true) from Bool.false_ne_true)]
  show wpAny _ _ (field (.ref it) 1 >>= _) _ _ s
  refine wpAny_bind (wpAny_field hoi hdi (x := .int i 0) rfl ?_)
  show wpAny _ _ (seqItems? (.ref t) >>= _) _ _ s
  refine wpAny_bind (wpAny_seqItems hol hdl ?_)
  simp only [Int.toNat_natCast, hx]
  refine wpAny_bind (wpAny_rule (wpAny_bind (wpAny_setField hoi hdi (by simp) ?_)))
  show wpAny _ _ (newExc (.type "StopIteration") [] >>= _) _ _ _
  refine wpAny_bind ?_
  simp only [newExc, newTuple]
  refine wpAny_bind (wpAny_newObj_type ?_ (by size_fits))
  refine wpAny_bind (m := firstArgMember _ _) (wpAny_of_eq (a := Value.none) (by first | rfl | (simp only [firstArgMember]; rfl)) ?_)
  refine wpAny_newObj_type ?_ (by size_fits)
  have q1 := (Heap.get?_update_other s.heap (Obj.mapFields (·.setIfInBounds 0 .none)) (Ne.symm hne)).trans h1
  refine HotX.raiseNew_hot ⟨hh, o1, vs1, Heap.get?_push_of_some _ (Heap.get?_push_of_some _ q1), d1, c1⟩ (Nat.ne_of_lt (Heap.lt_size (Heap.get?_push_of_some _ q1))) (Heap.get?_push_size _ rfl) rfl (by first | (simp; done) | (simp; omega) | (simp only [Array.size_append]; simp; omega)) ?_
  refine wpAny_bind (wpAny_isInstance (T := "StopIteration") (b := true) ⟨_, Heap.get?_update_self _ (Heap.get?_push_size _ rfl) rfl, rfl⟩ isSubtype_stop ?_)
  refine wpAny_pure (hQ _ fun b u hb e => ?_)
  have q2 := (Heap.get?_update_other s.heap (Obj.mapFields (·.setIfInBounds 0 .none)) (Ne.symm hb)).trans e
  rw [Heap.get?_update_other _ _ (Nat.ne_of_gt (Heap.lt_size (Heap.get?_push_of_some _ q2)))]
  exact Heap.get?_push_of_some _ (Heap.get?_push_of_some _ q2)
theorem turn_tupH {P : Program} {w : World} {K : PySem.W.Frag} {tg : Expr} (a it : Addr) : L2H.TurnH P w K tg (Itt K a) [it] it (fun i h => h.IsTupleIter it a i) := by
  have T : Turn P w K tg (Itt K a) [it] it (fun i h => h.IsTupleIter it a i) := turn_tuple a it
  refine ⟨T.mem, T.obj, T.keep, ?_, ?_, T.self⟩
  · intro X hP hw hK hc i pins s σ H E I hf st hg
    subst hP hw hK
    obtain ⟨xs, x, hq, hx⟩ := hg
    obtain ⟨its, rv, p, hz⟩ := I.tuple hq
    obtain ⟨u, hu, ru⟩ := rv.get hx
    obtain ⟨f0, f1, f2, f3, f4, f5⟩ := hf it (by simp)
    refine wpAny_pyNext_tuple_item st (show s.heap.IsTuple a its.toArray from p) (x := u) (by simpa using hu) fun h' st' sb => ⟨u, rfl, ?_⟩
    have I1 := I.turned (t' := s.toks) (fun b o hb e => (sb.2 b hb).trans e) f0 f1 f3 f4 f5
    obtain ⟨oi, e, c, d⟩ := id st'
    exact go_of (s := { s with heap := h' }) e c d (by decide) ⟨x, H, I1, ru, ⟨rfl, fun ys hy => by rw [I.tuple_inj hy hq]; exact hx⟩, st', fun b hb => (hf b hb).1⟩
  · intro X hP hw hK hc i pins s σ H E I hf st hg
    subst hP hw hK
    obtain ⟨xs, hq, hx⟩ := hg
    obtain ⟨its, rv, p, hz⟩ := I.tuple hq
    have hl := rv.length
    obtain ⟨f0, f1, f2, f3, f4, f5⟩ := hf it (by simp)
    obtain ⟨x1, ⟨hh, v1, e1, c1⟩, hp⟩ := hc
    have hp := List.mem_append_left pins hp
    exact tup_stop ⟨hh, x1.2, v1, (I.pin x1 hp).1, e1, c1⟩ (f5 x1 hp) st (show s.heap.IsTuple a its.toArray from p) (by simp; omega) fun h' eb => ⟨rfl, I.turned (t' := s.toks) eb f0 f1 f3 f4 f5⟩
theorem pi_tupH {X : Cx} {tg l : Expr} {tl : TE} (hl : PE X l tl) : L2H.PIH X tg l (iTup X.K tl) := by
  refine ⟨fun pins s σ H R I h => thn (hl.run pins s σ H _ I h) fun v s1 ⟨x, H1, I1, r1, a, e, ⟨xs, hq⟩, q⟩ => ?_⟩
  subst e
  cases r1
  obtain ⟨its, rv, p, hz⟩ := I1.tuple hq
  refine wpAny_pyIter_tuple (show s1.heap.IsTuple a its.toArray from p) ⟨s1.heap.objs.size, [s1.heap.objs.size], _, _, H1, rfl, I1.kept (t' := s1.toks) fun b o e => Heap.get?_push_of_some _ e, turn_tupH a _, ⟨_, Heap.get?_push_size _ rfl, rfl, rfl⟩, fun b hb => ?_, q⟩
  rw [List.mem_singleton.mp hb]
  exact I1.fpOk (Nat.le_refl _) (I1.hok.fresh (Nat.le_refl _))
section
variable {g : TG} {tb : TS} {D : Ends} {te : TE} {σ : L2.St} {H : Hp} {K : PySem.W.Frag} {nx bk ct : L2.St → Hp → Prop} {rt : VK}
def aFTup (K : PySem.W.Frag) (g : TG) (tb : TS) (D : Ends) (σ : L2.St) (x : V) (H1 : Hp) : Prop := ∃ a, x = .ref a ∧ (∃ xs, SqT K H1 a xs) ∧ aLoop (Itt K a) g tb D σ H1
theorem s_forT (k : te σ H fun x H1 => aFTup K g tb D σ x H1) : tFor (iTup K te) g tb D σ H := k
theorem w_forT {α : Type} {f : α → V} {us : List α} {p : Addr} (hp : H p = some (.tup (us.map f))) (Pv : Nat → L2.St → Hp → Prop) (h0 : Pv 0 σ H) (hl : ∀ i σ' H', i ≤ us.length → Pv i σ' H' → H' p = some (.tup (us.map f)))
    (hs : ∀ (i : Nat) (u : α) σ' H', us[i]? = some u → Pv i σ' H' → g (f u) σ' H' fun σ2 H2 => tb ⟨Pv (i + 1), rt, nx, Pv (i + 1)⟩ σ2 H2) (hd : ∀ σ' H', Pv us.length σ' H' → nx σ' H') : aFTup K g tb ⟨nx, rt, bk, ct⟩ σ (.ref p) H :=
  ⟨p, rfl, ⟨_, .inl (.inl hp)⟩, for_tup (K := K) (a := p) (xs := us.map f) Pv h0 (fun i σ' H' hi q => .inl (.inl (hl i σ' H' (by simpa using hi) q))) (fun i x σ' H' hx q => by
    rw [List.getElem?_map] at hx
    cases e : us[i]? with
    | none => rw [e] at hx; cases hx
    | some u =>
      rw [e] at hx
      cases hx
      exact hs i u σ' H' e q) (fun σ' H' q => hd σ' H' (by simpa using q))⟩
end
/-! ### lists of truth values -/
theorem eqvAll_bool : ∀ (ns ms : List Bool), PyData.eqvAll (ns.map PyData.bool) (ms.map PyData.bool) = decide (ns = ms) := by
  intro ns
  induction ns with
  | nil => intro ms; cases ms <;> simp [PyData.eqvAll]
  | cons n ns ih =>
    intro ms
    cases ms with
    | nil => simp [PyData.eqvAll]
    | cons m ms =>
      rw [List.map_cons, List.map_cons, PyData.eqvAll, ih]
      cases n <;> cases m <;> simp [PyData.eqv]
theorem dpAllB {K : PySem.W.Frag} {H : Hp} : ∀ (ns : List Bool), DpAll K H (ns.map V.bl) (ns.map PyData.bool)
  | [] => .nil
  | n :: ns => .cons (.bl n) (dpAllB ns)
theorem shapedB (ns : List Bool) : SeqAt.shaped (.list (ns.map PyData.bool)) = true := by
  have h1 : ∀ ns : List Bool, PyData.canLayAll0 (ns.map PyData.bool) = true := by
    intro ns
    induction ns with
    | nil => rfl
    | cons n ns ih => rw [List.map_cons, PyData.canLayAll0, ih]; rfl
  have h2 : ∀ ns : List Bool, PyData.depthAll (ns.map PyData.bool) = 0 := by
    intro ns
    induction ns with
    | nil => rfl
    | cons n ns ih => rw [List.map_cons, PyData.depthAll, ih]; rfl
  unfold SeqAt.shaped
  rw [PyData.canLay0, h1, PyData.depth, h2]
  decide
theorem w_eqLB {K : PySem.W.Frag} {H : Hp} {Q : VK} {p q : Addr} {ns ms : List Bool} (hp : H p = some (.lst (ns.map V.bl))) (hq : H q = some (.lst (ms.map V.bl))) (k : Q (.bl (decide (ns = ms))) H) : aEq K (.ref p) (.ref q) H Q :=
  .inr ⟨_, _, .lst (SqL.of hp) (dpAllB ns), .lst (SqL.of hq) (dpAllB ms), shapedB ns, shapedB ms, by rw [PyData.eqv, eqvAll_bool]; exact k⟩
/-! ### leaving a loop -/
theorem s_brk {σ : St} {H : Hp} {nx bk ct : St → Hp → Prop} {rt : VK} (k : bk σ H) : tBreak ⟨nx, rt, bk, ct⟩ σ H := k
theorem s_cont {σ : St} {H : Hp} {nx bk ct : St → Hp → Prop} {rt : VK} (k : ct σ H) : tCont ⟨nx, rt, bk, ct⟩ σ H := k
/-! ### a cut at a test -/
def tCutT (t : TT) : TT := fun σ H Q => ∃ P : Bool → Hp → Prop, t σ H P ∧ ∀ b H1, P b H1 → Q b H1
theorem pt_cutT {X : Cx} {e : Expr} {t : TT} (h : PT X e t) : PT X e (tCutT t) :=
  ⟨fun pins s σ H Q I ⟨P, h1, h2⟩ => thn (h.run pins s σ H P I h1) fun b s1 ⟨H1, I1, q1⟩ => ⟨H1, I1, h2 b H1 q1⟩⟩
theorem s_cutT {t : TT} {σ : St} {H : Hp} {Q : Bool → Hp → Prop} (p : Prop) [Decidable p] (h1 : t σ H fun b H1 => H1 = H ∧ b = decide p) (h2 : Q (decide p) H) : tCutT t σ H Q :=
  ⟨_, h1, fun _ _ ⟨e1, e2⟩ => by rw [e1, e2]; exact h2⟩
theorem s_cutTK {t : TT} {σ : St} {H : Hp} {Q : Bool → Hp → Prop} (p : Prop) [Decidable p] (R : Hp → Prop) (h1 : t σ H fun b H1 => R H1 ∧ b = decide p) (h2 : ∀ H1, R H1 → Q (decide p) H1) : tCutT t σ H Q :=
  ⟨_, h1, fun _ H1 ⟨e1, e2⟩ => by rw [e2]; exact h2 H1 e1⟩
/-! ### pairs in order -/
theorem w_leT2 {K : PySem.W.Frag} {H : Hp} {Q : VK} {p q : Addr} {x y z w : Int} (hp : H p = some (.tup [.int x, .int y])) (hq : H q = some (.tup [.int z, .int w])) (k : Q (.bl (decide (x < z ∨ (x = z ∧ y ≤ w)))) H) : rLeT K (.ref p) (.ref q) H Q := by
  refine ⟨p, q, [x, y], [z, w], rfl, rfl, SqT.of hp, SqT.of hq, ?_⟩
  rw [show Ob.lexAt (fun j => decide (([x, y] : List Int).getD j 0 = ([z, w] : List Int).getD j 0)) (fun j => decide (([x, y] : List Int).getD j 0 ≤ ([z, w] : List Int).getD j 0)) (decide (([x, y] : List Int).length ≤ ([z, w] : List Int).length)) 0 (min ([x, y] : List Int).length ([z, w] : List Int).length) = decide (x < z ∨ (x = z ∧ y ≤ w)) from ?_]
  · exact k
  · show (if decide (x = z) = true then (if decide (y = w) = true then decide (2 ≤ 2) else decide (y ≤ w)) else decide (x ≤ z)) = _
    by_cases c : x = z
    · rw [if_pos (decide_eq_true c)]
      by_cases d : y = w
      · rw [if_pos (decide_eq_true d)]; exact decide_eq_decide.mpr (by omega)
      · rw [if_neg (by simpa using d)]; exact decide_eq_decide.mpr (by omega)
    · rw [if_neg (by simpa using c)]; exact decide_eq_decide.mpr (by omega)
end Lk
namespace Lk
open PySem PySem.Spec PyProof.Rows L2
local macro_rules | `(tactic| walk_at "hp") => `(tactic| first
  | assumption
  | exact upd_same
  | ((with_reducible show upd _ _ _ _ = _); first | exact upd_new (by assumption) (by walk_at "hp") | exact upd_get (by walk_at "ne") (by walk_at "hp") | exact upd_kind (by assumption) (by walk_at "hp") (by intro z; cases z))
  | exact Kp.at0 (by assumption) (by walk_at "hp")
  | exact Kp.at (by assumption) (by walk_at "hp") (by walk_at "nm"))
local macro_rules | `(tactic| walk_at "dcd") => `(tactic| first
  | exact decide_eq_decide.mpr (by omega)
  | exact (decide_eq_true (by omega)).symm
  | exact (decide_eq_false (by omega)).symm)
local macro_rules | `(tactic| walk_at "ne") => `(tactic| first
  | assumption
  | exact Ne.symm (by assumption)
  | exact ne_n (by assumption) (by walk_at "hp")
  | exact ne_n' (by assumption) (by walk_at "hp"))
local macro_rules | `(tactic| walk_at "nm") => `(tactic| first
  | exact List.not_mem_nil
  | (refine not_mem2 (by walk_at "ne") ?_; walk_at "nm"))
local macro_rules | `(tactic| walk_at "kp") => `(tactic| first
  | exact Kp.refl
  | assumption
  | (refine Kp.new ?_ (by assumption); walk_at "kp")
  | (refine Kp.mut ?_ (by simp); walk_at "kp")
  | (refine Kp.own ?_ (by walk_at "fr"); walk_at "kp")
  | (refine Kp.trans0 ?_ (by assumption); walk_at "kp")
  | (refine Kp.trans ?_ (by assumption); walk_at "kp"))
local macro_rules | `(tactic| walk_at "num") => `(tactic| first
  | omega
  | (simp only [sizeLine_eq, List.length_map, List.length_append, List.length_cons, List.length_nil, List.length_replicate, List.length_set, List.length_range, CMul, CDivN, CDiv, CPow]; omega)
  | decide)
local macro_rules | `(tactic| walk_at "put") => `(tactic| first
  | (with_reducible exact put_nil)
  | (with_reducible exact put_hit)
  | exact put_miss (by decide) (by walk_at "put"))
local macro_rules | `(tactic| walk_at "fr") => `(tactic| first
  | assumption
  | exact upd_nil (by assumption)
  | exact upd_nil (upd_nil (by assumption))
  | exact upd_nil (upd_nil (upd_nil (by assumption)))
  | exact upd_nil (upd_nil (upd_nil (upd_nil (by assumption))))
  | exact upd_nil (upd_nil (upd_nil (upd_nil (upd_nil (by assumption)))))
  | exact upd_nil (upd_nil (upd_nil (upd_nil (upd_nil (upd_nil (by assumption))))))
  | exact upd_nil (upd_nil (upd_nil (upd_nil (upd_nil (upd_nil (upd_nil (by assumption)))))))
  | exact upd_nil (upd_nil (upd_nil (upd_nil (upd_nil (upd_nil (upd_nil (upd_nil (by assumption))))))))
  | exact upd_nil (upd_nil (upd_nil (upd_nil (upd_nil (upd_nil (upd_nil (upd_nil (upd_nil (by assumption)))))))))
  | exact upd_nil (upd_nil (upd_nil (upd_nil (upd_nil (upd_nil (upd_nil (upd_nil (upd_nil (upd_nil (by assumption))))))))))
  | exact upd_nil (upd_nil (upd_nil (upd_nil (upd_nil (upd_nil (upd_nil (upd_nil (upd_nil (upd_nil (upd_nil (by assumption)))))))))))
  | exact Kp.free (by assumption) (by walk_at "fr"))
local macro_rules | `(tactic| walk_at "lg") => `(tactic| first
  | assumption
  | exact log2_small (by omega))
local macro_rules | `(tactic| walk_at "tst") => `(tactic| first
  | assumption
  | rfl
  | omega)
local macro_rules | `(tactic| walk_at "s") => `(tactic| with_reducible first
  | refine s_seq ?_
  | refine s_var (by with_unfolding_all rfl) ?_
  | refine s_c ?_
  | refine s_op ?_
  | refine s_cons ?_
  | refine s_nil ?_
  | refine s_asg ?_
  | refine s_name (by with_unfolding_all rfl) ?_
  | refine s_sub ?_
  | refine s_callS ?_
  | refine s_CB ?_
  | refine s_BM ?_
  | refine s_BM0 ?_
  | refine s_ret ?_
  | refine s_drop ?_
  | refine s_ifS ?_
  | refine s_B ?_
  | refine s_tru ?_
  | refine s_and ?_
  | refine s_or ?_
  | refine s_not ?_
  | refine s_andV ?_
  | refine s_orV ?_
  | refine s_notV ?_
  | refine s_if ?_
  | refine s_chain ?_
  | refine s_un ?_
  | refine s_lst ?_
  | refine s_tup ?_
  | refine s_sl ?_
  | refine s_nopart ?_
  | refine s_part ?_
  | refine s_next ?_
  | refine s_retN ?_
  | refine s_yes ?_
  | refine s_forR1 ?_
  | refine s_forR2 ?_
  | refine s_forL ?_
  | refine s_forE ?_
  | refine s_lcL ?_
  | refine s_lcR1 ?_
  | refine s_lcR2 ?_
  | refine s_lcE ?_
  | refine s_chain3 ?_
  | refine s_mkx ?_
  | refine s_xfR ?_
  | refine s_fld ?_
  | refine s_sfld ?_
  | refine s_methS ?_
  | refine s_makeS ?_
  | refine s_cval ?_
  | refine s_listRg ?_
  | refine s_lcV ?_
  | refine s_tB ?_
  | refine s_dnew ?_
  | refine s_din ?_
  | refine s_dnin ?_
  | refine s_dget ?_
  | refine s_dput ?_
  | refine s_forT ?_
  | refine s_brk ?_
  | refine s_cont ?_)
local macro_rules | `(tactic| walk_at "v") => `(tactic| first
  | ((with_reducible show rIx _ _ _ _ _); first  | (refine w_ixM (by walk_at "hp") (by walk_at "num") (by walk_at "num") ?_) | (refine w_ixQ (by assumption) (by walk_at "num") (by walk_at "num") ?_) | (refine w_ixL (by walk_at "hp") (by walk_at "num") (by first | rfl | assumption) ?_) | (refine w_ixT (by walk_at "hp") (by walk_at "num") (by first | rfl | assumption) ?_) | (refine w_ixNeg (by walk_at "hp") (by walk_at "num") (by walk_at "num") ?_))
  | (with_reducible refine w_I0 ?_)
  | ((with_reducible show rI _ _ _ _ _ _); first  | (refine w_I (by walk_at "num") ?_))
  | (with_reducible refine w_B ?_)
  | (with_reducible refine w_truB ?_)
  | (with_reducible refine w_addI ?_)
  | ((with_reducible show aAdd _ _ _ _); first  | (refine w_addL1 (by walk_at "hp") (by walk_at "hp") (by walk_at "num") ?_) | (refine w_addR1 (by walk_at "hp") (by walk_at "hp") (by walk_at "num") ?_) | (refine w_addLM (by walk_at "hp") (by walk_at "hp") (by walk_at "num") ?_) | (refine w_addL (by walk_at "hp") (by walk_at "hp") (by walk_at "num") ?_) | (refine w_addS (by walk_at "num") ?_))
  | (with_reducible refine w_eqI ?_)
  | (with_reducible refine w_neI ?_)
  | (with_reducible refine w_eqB ?_)
  | (with_reducible refine w_neB ?_)
  | (with_reducible refine w_eqS ?_)
  | (with_reducible refine w_neS ?_)
  | ((with_reducible show rIsG _ _ _ _ _ _ _); first  | (refine w_isG (by walk_at "hp") (by walk_at "ef") (by walk_at "et") ?_) | (refine w_isGv (by walk_at "hp") (by walk_at "ef") (by walk_at "et") ?_))
  | ((with_reducible show aXf _ _ _ _ _ _ _ _); first  | (refine w_xf (by walk_at "hp") (by walk_at "ef") (by walk_at "fi") (by rfl) ?_))
  | ((with_reducible show rIn _ false _ _ _ _); first  | (refine w_inI (by walk_at "hp") ?_) | (refine w_inS (by walk_at "hp") ?_) | (refine w_inB (by walk_at "hp") ?_))
  | ((with_reducible show rLeT _ _ _ _ _); first  | (refine w_leT2 (by walk_at "hp") (by walk_at "hp") ?_))
  | ((with_reducible show rIn _ true _ _ _ _); first  | (refine w_notInI (by walk_at "hp") ?_) | (refine w_notInS (by walk_at "hp") ?_) | (refine w_notInB (by walk_at "hp") ?_))
  | ((with_reducible show aEq _ _ _ _ _); first  | (refine w_eqLI' (by walk_at "hp") (by walk_at "hp") ?_) | (refine w_eqLI0 (by walk_at "hp") (by walk_at "hp") ?_))
  | ((with_reducible show aNe _ _ _ _ _); first  | (refine w_neLI' (by walk_at "hp") (by walk_at "hp") ?_) | (refine w_neLI0 (by walk_at "hp") (by walk_at "hp") ?_))
  | (with_reducible refine w_truI ?_)
  | (with_reducible refine w_truN ?_)
  | ((with_reducible show aTru _ _ _ _); first  | (refine w_truL (by walk_at "hp") ?_) | (refine w_truT (by walk_at "hp") ?_))
  | ((with_reducible show rSetL _ _ _ _ _); first  | (refine w_setMI (by walk_at "hp") (by walk_at "num") (by walk_at "num") ?_) | (refine w_setMB (by walk_at "hp") (by walk_at "num") (by walk_at "num") ?_) | (refine w_setMS (by walk_at "hp") (by walk_at "num") (by walk_at "num") ?_) | (refine w_setL (by walk_at "hp") (by walk_at "num") (by walk_at "num") ?_))
  | ((with_reducible show aMul _ _ _ _); first  | (refine w_mulI (by walk_at "num") ?_) | (refine w_repI (by walk_at "hp") (by walk_at "num") (by walk_at "num") (by walk_at "num") ?_) | (refine w_repB (by walk_at "hp") (by walk_at "num") (by walk_at "num") (by walk_at "num") ?_))
  | ((with_reducible show tyV _ _ _ _ ∧ _); first  | (refine w_tyL (by walk_at "hp") ?_) | (refine w_tyS ?_))
  | ((with_reducible show rAppend _ _ _ _); first  | (refine w_appMI (by walk_at "hp") (by walk_at "num") ?_) | (refine w_appMS (by walk_at "hp") (by walk_at "num") ?_) | (refine w_appMB (by walk_at "hp") (by walk_at "num") ?_) | (refine w_appL (by walk_at "hp") (by walk_at "num") ?_))
  | ((with_reducible show rLen _ _ _ _); first  | (refine w_lenM (by walk_at "hp") ?_) | (refine w_lenQ (by assumption) ?_) | (refine w_lenL (by walk_at "hp") ?_) | (refine w_lenT (by walk_at "hp") ?_) | (refine w_lenS (by walk_at "num") ?_))
  | ((with_reducible show rSum _ _ _ _); first  | (refine w_sum (by walk_at "hp") ?_))
  | ((with_reducible show rAll _ _ _ _); first  | (refine w_all (by walk_at "hp") ?_))
  | ((with_reducible show rIsC _ _ _ _); first  | (refine w_isC (by walk_at "hp") ?_))
  | ((with_reducible show rTupOf _ _ _ _); first  | (refine w_tupOf (by walk_at "hp") ?_))
  | (with_reducible refine w_isB ?_)
  | (with_reducible refine w_notB ?_)
  | ((with_reducible show gTup _ _ _ _ _ _ _); first  | (refine w_gTup (by walk_at "hp") rfl ?_))
  | (with_reducible refine w_gCons ?_)
  | (with_reducible refine w_gNil ?_)
  | (with_reducible refine w_abs ?_)
  | (with_reducible refine w_int ?_)
  | ((with_reducible show _ ≤ sizeLine ∧ _); first  | (refine w_new (by walk_at "num") ?_))
  | (with_reducible refine w_U ?_)
  | ((with_reducible show rSlA _ _ _ _ _ _); first  | (refine w_slM (by walk_at "hp") ?_) | (refine w_slL (by walk_at "hp") ?_) | (refine w_slS (by walk_at "num") ?_) | (refine w_slQ (by assumption) ?_))
  | (with_reducible refine w_part ?_)
  | ((with_reducible show rListOf _ _ _ _); first  | (refine w_listL (by walk_at "hp") ?_) | (refine w_listT (by walk_at "hp") ?_))
  | ((with_reducible show rInsert _ _ _ _); first  | (refine w_insMI (by walk_at "hp") (by walk_at "num") (by walk_at "num") (by walk_at "num") ?_) | (refine w_insMS (by walk_at "hp") (by walk_at "num") (by walk_at "num") (by walk_at "num") ?_))
  | ((with_reducible show rReverse _ _ _ _); first  | (refine w_rev (by walk_at "hp") ?_))
  | ((with_reducible show rIsi _ _ _ _); first  | (with_reducible refine w_isiI kb_ii ?_) | (with_reducible refine w_isiI kb_ib ?_) | (with_reducible refine w_isiI kb_is ?_) | (with_reducible refine w_isiI kb_il ?_) | (with_reducible refine w_isiI kb_it ?_) | (with_reducible refine w_isiB kb_bi ?_) | (with_reducible refine w_isiB kb_bb ?_) | (with_reducible refine w_isiB kb_bt ?_) | (with_reducible refine w_isiS kb_ss ?_) | (with_reducible refine w_isiS kb_si ?_) | (with_reducible refine w_isiS kb_st ?_) | (with_reducible refine w_isiS kb_sl ?_) | (with_reducible refine w_isiN kb_nt ?_) | (with_reducible refine w_isiN kb_ni ?_) | (with_reducible refine w_isiN kb_nl ?_) | (with_reducible refine w_isiN kb_ns ?_) | (refine w_isiL (by walk_at "hp") kb_ll ?_) | (refine w_isiT (by walk_at "hp") kb_tt ?_) | (refine w_isiL (by walk_at "hp") kb_lt ?_) | (refine w_isiL (by walk_at "hp") kb_li ?_) | (refine w_isiT (by walk_at "hp") kb_tl ?_))
  | ((with_reducible show aFld _ _ _ _ _); first  | (refine w_fld (by walk_at "hp") (by walk_at "cl") (by walk_at "na") (by rfl) ?_))
  | ((with_reducible show aSFld _ _ _ _ _ _); first  | (refine w_sfld (by walk_at "hp") (by walk_at "cl") (by walk_at "na") (by simp) (by walk_at "put") ?_))
  | ((with_reducible show aMeth _ _ _ _ _); first  | (refine w_meth (by walk_at "hp") (by rfl) ?_))
  | ((with_reducible show aCVal _ _ _ _ _); first  | (refine w_cval (by walk_at "rd") (by walk_at "cv") ?_))
  | ((with_reducible show rJoin _ _ _ _ _); first  | (refine w_join (by walk_at "hp") (by walk_at "num") ?_))
  | ((with_reducible show rSplit _ _ _ _); first  | (refine w_split (by decide) (by walk_at "num") ?_))
  | ((with_reducible show aDIn _ _ _ _); first  | (refine w_dinI (by walk_at "hp") ?_))
  | ((with_reducible show aDNin _ _ _ _); first  | (refine w_dninI (by walk_at "hp") ?_))
  | ((with_reducible show aDPut _ _ _ _ _); first  | (refine w_dputI (by walk_at "hp") (by walk_at "num") ?_))
  | ((with_reducible show rCatT _ _ _ _ _); first  | (refine w_catT (by walk_at "hp") (by walk_at "hp") (by first | exact List.cons_ne_nil _ _ | exact mapNe (by assumption)) (by first | exact List.cons_ne_nil _ _ | exact mapNe (by assumption)) (by walk_at "num") ?_))
  | ((with_reducible show rPopAt _ _ _ _); first  | (refine w_popM (by walk_at "hp") (by walk_at "num") ?_))
  | (with_reducible refine w_digit ?_)
  | (with_reducible refine w_ascii ?_)
  | ((with_reducible show rIntA _ _ _); first  | (with_reducible refine w_intA ?_) | (with_reducible refine w_intB ?_))
  | ((with_reducible show rStrI _ _ _); first  | (refine w_strI (by walk_at "lg") ?_))
  | (with_reducible refine w_rngV ?_)
  | ((with_reducible show aRgL _ _ _ _); first  | (refine w_rgL ⟨(by walk_at "num"), (by walk_at "num"), (by walk_at "num"), (by walk_at "num"), (by walk_at "num")⟩ ?_))
  | (with_reducible refine w_max2 ?_)
  | (with_reducible refine w_min2 ?_)
  | ((with_reducible show aIsN _ _ _ _); first  | (with_reducible refine w_isN_n ?_) | (with_reducible refine w_isN_i ?_) | (with_reducible refine w_isN_r ?_) | (with_reducible refine w_isN_s ?_))
  | ((with_reducible show aNotN _ _ _ _); first  | (with_reducible refine w_notN_n ?_) | (with_reducible refine w_notN_i ?_) | (with_reducible refine w_notN_r ?_) | (with_reducible refine w_notN_s ?_)))
local macro_rules | `(tactic| walk_at "i") => `(tactic| first
  | (with_reducible refine w_ite1 ?_)
  | (with_reducible refine w_ite0 ?_)
  | ((with_reducible refine w_iteT ?_ ?_); (· walk_at "tst"))
  | ((with_reducible refine w_iteF ?_ ?_); (· walk_at "tst"))
  | ((with_reducible refine w_iteNT ?_ ?_); (· walk_at "tst"))
  | ((with_reducible refine w_iteNF ?_ ?_); (· walk_at "tst"))
  | ((with_reducible refine w_itebT ?_ ?_); (· walk_at "tst"))
  | ((with_reducible refine w_itebF ?_ ?_); (· walk_at "tst"))
  | ((with_reducible refine w_itenbT ?_ ?_); (· walk_at "tst"))
  | ((with_reducible refine w_itenbF ?_ ?_); (· walk_at "tst")))
local macro_rules | `(tactic| walk_at "w") => `(tactic| repeat (first | walk_at "s" | walk_at "v" | walk_at "i" | (with_reducible dsimp only)))
def top (i : Nat) : Stmt := PySem.Challenge.pw_latelink_k23_whole_once_gaps.main.body.getD i (.Pass ⟨0, 0, 0, 0⟩)
abbrev s_check_size : Stmt := top 15
abbrev s_check_operation : Stmt := top 16
abbrev s_check_log : Stmt := top 17
abbrev s__is_legal : Stmt := top 18
abbrev s_is_number : Stmt := top 19
abbrev s__numbers : Stmt := top 22
abbrev s__read_rights : Stmt := top 23
abbrev s__read_lefts : Stmt := top 24
abbrev s__read_outs : Stmt := top 25
abbrev s_replay : Stmt := top 28
abbrev s_check_once : Stmt := top 30
abbrev s_late_gaps : Stmt := top 31
abbrev s_late_writes : Stmt := top 32
abbrev s_is_complete : Stmt := top 33
abbrev s_check_gap : Stmt := top 35
abbrev s_left_holds : Stmt := top 36
abbrev s_right_holds : Stmt := top 37
abbrev s_gap_state : Stmt := top 38
abbrev s_gap_states : Stmt := top 39
abbrev s_lost_gaps : Stmt := top 40
abbrev s_sole_holders : Stmt := top 41
abbrev s_check_repairable : Stmt := top 43
abbrev s_is_due : Stmt := top 44
abbrev s__share : Stmt := top 45
abbrev s_is_repairable : Stmt := top 46
abbrev s_due_nodes : Stmt := top 47
abbrev s_settled_debt : Stmt := top 48
abbrev s_debt_of : Stmt := top 49
abbrev s__law_mixed : Stmt := top 51
abbrev s__law_box : Stmt := top 52
abbrev s__law_take : Stmt := top 53
abbrev s__law_size : Stmt := top 54
abbrev s__law_range : Stmt := top 55
abbrev s__law_start : Stmt := top 56
abbrev s__law_late : Stmt := top 57
abbrev s__law_step : Stmt := top 58
abbrev s__law_pattern : Stmt := top 59
abbrev s__law_log : Stmt := top 60
abbrev s__law_first_late : Stmt := top 61
abbrev s__law_after : Stmt := top 62
abbrev s__law_states : Stmt := top 63
abbrev s__law_integer : Stmt := top 64
abbrev s__law_row : Stmt := top 65
abbrev s__law_texts : Stmt := top 66
abbrev s__law_is_pair : Stmt := top 67
abbrev s__law_told_gaps : Stmt := top 68
abbrev s__law_complete : Stmt := top 69
abbrev s__law_holders : Stmt := top 70
abbrev s__law_calm : Stmt := top 71
abbrev s_law : Stmt := top 72
abbrev s_BadOperation___init__ : Stmt := inClass (top 4) 0
abbrev s_Illegal___init__ : Stmt := inClass (top 5) 0
abbrev s_BadSize___init__ : Stmt := inClass (top 6) 0
abbrev s_BadNode___init__ : Stmt := inClass (top 7) 0
abbrev s_BadGap___init__ : Stmt := inClass (top 8) 0
abbrev s_BadDump___init__ : Stmt := inClass (top 9) 0
abbrev s_NotRepairable___init__ : Stmt := inClass (top 10) 0
abbrev s_NotOnce___init__ : Stmt := inClass (top 11) 0
abbrev s_Links___init__ : Stmt := inClass (top 26) 1
abbrev s_Links_built : Stmt := inClass (top 26) 2
abbrev s_Links_read : Stmt := inClass (top 26) 3
abbrev s_Links_left : Stmt := inClass (top 26) 4
abbrev s_Links_right : Stmt := inClass (top 26) 5
abbrev s_Links_is_out : Stmt := inClass (top 26) 6
abbrev s_Links_outs : Stmt := inClass (top 26) 7
abbrev s_Links_operation_on : Stmt := inClass (top 26) 8
abbrev s_Links_apply : Stmt := inClass (top 26) 9
abbrev s_Links_apply_at : Stmt := inClass (top 26) 10
abbrev s_Links_walk : Stmt := inClass (top 26) 11
abbrev s_Links_walk_back : Stmt := inClass (top 26) 12
abbrev s_Links_is_sound : Stmt := inClass (top 26) 13
abbrev s_Links_is_whole : Stmt := inClass (top 26) 14
abbrev s_Links_copy : Stmt := inClass (top 26) 15
abbrev s_Links_dump : Stmt := inClass (top 26) 16
abbrev s_Links__dump_parts : Stmt := inClass (top 26) 17
abbrev s_Links___str__ : Stmt := inClass (top 26) 18
abbrev s_Links___len__ : Stmt := inClass (top 26) 19
abbrev s_Links___contains__ : Stmt := inClass (top 26) 20
abbrev s_Links___eq__ : Stmt := inClass (top 26) 21
/-- where things stand -/
structure AD where
  f_check_size : Addr
  f_check_operation : Addr
  f_check_log : Addr
  f__is_legal : Addr
  f_replay : Addr
  f_check_once : Addr
  f_late_gaps : Addr
  f_late_writes : Addr
  f_is_complete : Addr
  f_check_gap : Addr
  f_left_holds : Addr
  f_right_holds : Addr
  f_gap_state : Addr
  f_gap_states : Addr
  f_lost_gaps : Addr
  f_sole_holders : Addr
  f_check_repairable : Addr
  f_is_due : Addr
  f__share : Addr
  f_is_repairable : Addr
  f_due_nodes : Addr
  f_settled_debt : Addr
  f_debt_of : Addr
  f__law_mixed : Addr
  f__law_box : Addr
  f__law_take : Addr
  f__law_size : Addr
  f__law_range : Addr
  f__law_start : Addr
  f__law_late : Addr
  f__law_step : Addr
  f__law_pattern : Addr
  f__law_log : Addr
  f__law_first_late : Addr
  f__law_after : Addr
  f__law_states : Addr
  f__law_integer : Addr
  f__law_row : Addr
  f__law_texts : Addr
  f__law_is_pair : Addr
  f__law_told_gaps : Addr
  f__law_complete : Addr
  f__law_holders : Addr
  f__law_calm : Addr
  f_law : Addr
  f_Links___init__ : Addr
  f_Links_left : Addr
  f_Links_right : Addr
  f_Links_is_out : Addr
  f_Links_outs : Addr
  f_Links_apply : Addr
  f_Links_apply_at : Addr
  f_Links_is_sound : Addr
  f_Links_is_whole : Addr
  Links : Addr
  LinkError : Addr
  LogError : Addr
  BadOperation : Addr
  i_BadOperation : Addr
  Illegal : Addr
  i_Illegal : Addr
  BadSize : Addr
  i_BadSize : Addr
  BadNode : Addr
  i_BadNode : Addr
  BadGap : Addr
  i_BadGap : Addr
  BadDump : Addr
  i_BadDump : Addr
  NotRepairable : Addr
  i_NotRepairable : Addr
  NotOnce : Addr
  i_NotOnce : Addr
structure Txt (P : Program) (K : PySem.W.Frag) (mg : Str → Option Value) (a : AD) : Prop where
  n_check_size : Nm K mg "check_size" a.f_check_size
  F_check_size : ∃ fd, Fun K "check_size" "check_size" s_check_size a.f_check_size fd ∧ Binds K fd ["size"] []
  n_check_operation : Nm K mg "check_operation" a.f_check_operation
  F_check_operation : ∃ fd, Fun K "check_operation" "check_operation" s_check_operation a.f_check_operation fd ∧ Binds K fd ["size", "operation", "index"] []
  n_check_log : Nm K mg "check_log" a.f_check_log
  F_check_log : ∃ fd, Fun K "check_log" "check_log" s_check_log a.f_check_log fd ∧ Binds K fd ["size", "log"] []
  n__is_legal : Nm K mg "_is_legal" a.f__is_legal
  F__is_legal : ∃ fd, Fun K "_is_legal" "_is_legal" s__is_legal a.f__is_legal fd ∧ Binds K fd ["flags", "operation"] []
  n_replay : Nm K mg "replay" a.f_replay
  F_replay : ∃ fd, Fun K "replay" "replay" s_replay a.f_replay fd ∧ Binds K fd ["size", "log"] []
  n_check_once : Nm K mg "check_once" a.f_check_once
  F_check_once : ∃ fd, Fun K "check_once" "check_once" s_check_once a.f_check_once fd ∧ Binds K fd ["size", "log"] []
  n_late_gaps : Nm K mg "late_gaps" a.f_late_gaps
  F_late_gaps : ∃ fd, Fun K "late_gaps" "late_gaps" s_late_gaps a.f_late_gaps fd ∧ Binds K fd ["links", "back", "node"] []
  n_late_writes : Nm K mg "late_writes" a.f_late_writes
  F_late_writes : ∃ fd, Fun K "late_writes" "late_writes" s_late_writes a.f_late_writes fd ∧ Binds K fd ["size", "log"] []
  n_is_complete : Nm K mg "is_complete" a.f_is_complete
  F_is_complete : ∃ fd, Fun K "is_complete" "is_complete" s_is_complete a.f_is_complete fd ∧ Binds K fd ["size", "log"] []
  n_check_gap : Nm K mg "check_gap" a.f_check_gap
  F_check_gap : ∃ fd, Fun K "check_gap" "check_gap" s_check_gap a.f_check_gap fd ∧ Binds K fd ["size", "gap"] []
  n_left_holds : Nm K mg "left_holds" a.f_left_holds
  F_left_holds : ∃ fd, Fun K "left_holds" "left_holds" s_left_holds a.f_left_holds fd ∧ Binds K fd ["links", "gap"] []
  n_right_holds : Nm K mg "right_holds" a.f_right_holds
  F_right_holds : ∃ fd, Fun K "right_holds" "right_holds" s_right_holds a.f_right_holds fd ∧ Binds K fd ["links", "gap"] []
  n_gap_state : Nm K mg "gap_state" a.f_gap_state
  F_gap_state : ∃ fd, Fun K "gap_state" "gap_state" s_gap_state a.f_gap_state fd ∧ Binds K fd ["links", "gap"] []
  n_gap_states : Nm K mg "gap_states" a.f_gap_states
  F_gap_states : ∃ fd, Fun K "gap_states" "gap_states" s_gap_states a.f_gap_states fd ∧ Binds K fd ["links"] []
  n_lost_gaps : Nm K mg "lost_gaps" a.f_lost_gaps
  F_lost_gaps : ∃ fd, Fun K "lost_gaps" "lost_gaps" s_lost_gaps a.f_lost_gaps fd ∧ Binds K fd ["links"] []
  n_sole_holders : Nm K mg "sole_holders" a.f_sole_holders
  F_sole_holders : ∃ fd, Fun K "sole_holders" "sole_holders" s_sole_holders a.f_sole_holders fd ∧ Binds K fd ["links"] []
  n_check_repairable : Nm K mg "check_repairable" a.f_check_repairable
  F_check_repairable : ∃ fd, Fun K "check_repairable" "check_repairable" s_check_repairable a.f_check_repairable fd ∧ Binds K fd ["links"] []
  n_is_due : Nm K mg "is_due" a.f_is_due
  F_is_due : ∃ fd, Fun K "is_due" "is_due" s_is_due a.f_is_due fd ∧ Binds K fd ["links", "node"] []
  n__share : Nm K mg "_share" a.f__share
  F__share : ∃ fd, Fun K "_share" "_share" s__share a.f__share fd ∧ Binds K fd ["links", "node"] []
  n_is_repairable : Nm K mg "is_repairable" a.f_is_repairable
  F_is_repairable : ∃ fd, Fun K "is_repairable" "is_repairable" s_is_repairable a.f_is_repairable fd ∧ Binds K fd ["links"] []
  n_due_nodes : Nm K mg "due_nodes" a.f_due_nodes
  F_due_nodes : ∃ fd, Fun K "due_nodes" "due_nodes" s_due_nodes a.f_due_nodes fd ∧ Binds K fd ["links"] []
  n_settled_debt : Nm K mg "settled_debt" a.f_settled_debt
  F_settled_debt : ∃ fd, Fun K "settled_debt" "settled_debt" s_settled_debt a.f_settled_debt fd ∧ Binds K fd ["links"] []
  n_debt_of : Nm K mg "debt_of" a.f_debt_of
  F_debt_of : ∃ fd, Fun K "debt_of" "debt_of" s_debt_of a.f_debt_of fd ∧ Binds K fd ["links"] []
  n__law_mixed : Nm K mg "_law_mixed" a.f__law_mixed
  F__law_mixed : ∃ fd, Fun K "_law_mixed" "_law_mixed" s__law_mixed a.f__law_mixed fd ∧ Binds K fd ["_law_cell", "_law_turn"] []
  n__law_box : Nm K mg "_law_box" a.f__law_box
  F__law_box : ∃ fd, Fun K "_law_box" "_law_box" s__law_box a.f__law_box fd ∧ Binds K fd ["_law_script"] []
  n__law_take : Nm K mg "_law_take" a.f__law_take
  F__law_take : ∃ fd, Fun K "_law_take" "_law_take" s__law_take a.f__law_take fd ∧ Binds K fd ["_law_box_here", "_law_many"] []
  n__law_size : Nm K mg "_law_size" a.f__law_size
  F__law_size : ∃ fd, Fun K "_law_size" "_law_size" s__law_size a.f__law_size fd ∧ Binds K fd ["_law_box_here"] []
  n__law_range : Nm K mg "_law_range" a.f__law_range
  F__law_range : ∃ fd, Fun K "_law_range" "_law_range" s__law_range a.f__law_range fd ∧ Binds K fd ["_law_box_here", "_law_size_here"] []
  n__law_start : Nm K mg "_law_start" a.f__law_start
  F__law_start : ∃ fd, Fun K "_law_start" "_law_start" s__law_start a.f__law_start fd ∧ Binds K fd ["_law_size_here"] []
  n__law_late : Nm K mg "_law_late" a.f__law_late
  F__law_late : ∃ fd, Fun K "_law_late" "_law_late" s__law_late a.f__law_late fd ∧ Binds K fd ["_law_book", "_law_node"] []
  n__law_step : Nm K mg "_law_step" a.f__law_step
  F__law_step : ∃ fd, Fun K "_law_step" "_law_step" s__law_step a.f__law_step fd ∧ Binds K fd ["_law_book", "_law_operation"] []
  n__law_pattern : Nm K mg "_law_pattern" a.f__law_pattern
  F__law_pattern : ∃ fd, Fun K "_law_pattern" "_law_pattern" s__law_pattern a.f__law_pattern fd ∧ Binds K fd ["_law_box_here", "_law_low", "_law_high"] []
  n__law_log : Nm K mg "_law_log" a.f__law_log
  F__law_log : ∃ fd, Fun K "_law_log" "_law_log" s__law_log a.f__law_log fd ∧ Binds K fd ["_law_box_here", "_law_size_here"] []
  n__law_first_late : Nm K mg "_law_first_late" a.f__law_first_late
  F__law_first_late : ∃ fd, Fun K "_law_first_late" "_law_first_late" s__law_first_late a.f__law_first_late fd ∧ Binds K fd ["_law_size_here", "_law_log_here"] []
  n__law_after : Nm K mg "_law_after" a.f__law_after
  F__law_after : ∃ fd, Fun K "_law_after" "_law_after" s__law_after a.f__law_after fd ∧ Binds K fd ["_law_size_here", "_law_log_here"] []
  n__law_states : Nm K mg "_law_states" a.f__law_states
  F__law_states : ∃ fd, Fun K "_law_states" "_law_states" s__law_states a.f__law_states fd ∧ Binds K fd ["_law_size_here", "_law_book"] []
  n__law_integer : Nm K mg "_law_integer" a.f__law_integer
  F__law_integer : ∃ fd, Fun K "_law_integer" "_law_integer" s__law_integer a.f__law_integer fd ∧ Binds K fd ["_law_told"] []
  n__law_row : Nm K mg "_law_row" a.f__law_row
  F__law_row : ∃ fd, Fun K "_law_row" "_law_row" s__law_row a.f__law_row fd ∧ Binds K fd ["_law_told", "_law_due"] []
  n__law_texts : Nm K mg "_law_texts" a.f__law_texts
  F__law_texts : ∃ fd, Fun K "_law_texts" "_law_texts" s__law_texts a.f__law_texts fd ∧ Binds K fd ["_law_told", "_law_due"] []
  n__law_is_pair : Nm K mg "_law_is_pair" a.f__law_is_pair
  F__law_is_pair : ∃ fd, Fun K "_law_is_pair" "_law_is_pair" s__law_is_pair a.f__law_is_pair fd ∧ Binds K fd ["_law_told", "_law_many", "_law_size_here"] []
  n__law_told_gaps : Nm K mg "_law_told_gaps" a.f__law_told_gaps
  F__law_told_gaps : ∃ fd, Fun K "_law_told_gaps" "_law_told_gaps" s__law_told_gaps a.f__law_told_gaps fd ∧ Binds K fd ["_law_told", "_law_many", "_law_size_here"] []
  n__law_complete : Nm K mg "_law_complete" a.f__law_complete
  F__law_complete : ∃ fd, Fun K "_law_complete" "_law_complete" s__law_complete a.f__law_complete fd ∧ Binds K fd ["_law_size_here", "_law_log_here"] []
  n__law_holders : Nm K mg "_law_holders" a.f__law_holders
  F__law_holders : ∃ fd, Fun K "_law_holders" "_law_holders" s__law_holders a.f__law_holders fd ∧ Binds K fd ["_law_size_here", "_law_states_here"] []
  n__law_calm : Nm K mg "_law_calm" a.f__law_calm
  F__law_calm : ∃ fd, Fun K "_law_calm" "_law_calm" s__law_calm a.f__law_calm fd ∧ Binds K fd ["_law_size_here", "_law_log_here"] []
  n_law : Nm K mg "law" a.f_law
  F_law : ∃ fd, Fun K "law" "law" s_law a.f_law fd ∧ Binds K fd ["_law_script"] []
  c_Links : mg "Links" = some (.ref a.Links)
  cl_Links : Cls K a.Links
  mk_Links : Mk K a.Links a.f_Links___init__
  rd_Links : ClX.CRead K a.Links (.type "type")
  na_Links_size : NoAttr K a.Links "size"
  na_Links__lefts : NoAttr K a.Links "_lefts"
  na_Links__rights : NoAttr K a.Links "_rights"
  na_Links__flags : NoAttr K a.Links "_flags"
  cv_Links_MOST : ∃ t, ClX.CVal K a.Links (.type "type") "MOST" (.int 60) (.int 60 t)
  F_Links___init__ : ∃ fd, Fun K "__init__" "Links.__init__" s_Links___init__ a.f_Links___init__ fd ∧ Binds K fd ["self", "size"] []
  me_Links_left : Meth K a.Links "left" a.f_Links_left
  F_Links_left : ∃ fd, Fun K "left" "Links.left" s_Links_left a.f_Links_left fd ∧ Binds K fd ["self", "node"] []
  me_Links_right : Meth K a.Links "right" a.f_Links_right
  F_Links_right : ∃ fd, Fun K "right" "Links.right" s_Links_right a.f_Links_right fd ∧ Binds K fd ["self", "node"] []
  me_Links_is_out : Meth K a.Links "is_out" a.f_Links_is_out
  F_Links_is_out : ∃ fd, Fun K "is_out" "Links.is_out" s_Links_is_out a.f_Links_is_out fd ∧ Binds K fd ["self", "node"] []
  me_Links_outs : Meth K a.Links "outs" a.f_Links_outs
  F_Links_outs : ∃ fd, Fun K "outs" "Links.outs" s_Links_outs a.f_Links_outs fd ∧ Binds K fd ["self"] []
  me_Links_apply : Meth K a.Links "apply" a.f_Links_apply
  F_Links_apply : ∃ fd, Fun K "apply" "Links.apply" s_Links_apply a.f_Links_apply fd ∧ Binds K fd ["self", "operation"] []
  me_Links_apply_at : Meth K a.Links "apply_at" a.f_Links_apply_at
  F_Links_apply_at : ∃ fd, Fun K "apply_at" "Links.apply_at" s_Links_apply_at a.f_Links_apply_at fd ∧ Binds K fd ["self", "operation", "index"] []
  me_Links_is_sound : Meth K a.Links "is_sound" a.f_Links_is_sound
  F_Links_is_sound : ∃ fd, Fun K "is_sound" "Links.is_sound" s_Links_is_sound a.f_Links_is_sound fd ∧ Binds K fd ["self"] []
  me_Links_is_whole : Meth K a.Links "is_whole" a.f_Links_is_whole
  F_Links_is_whole : ∃ fd, Fun K "is_whole" "Links.is_whole" s_Links_is_whole a.f_Links_is_whole fd ∧ Binds K fd ["self"] []
  c_LinkError : mg "LinkError" = some (.ref a.LinkError)
  c_LogError : mg "LogError" = some (.ref a.LogError)
  c_BadOperation : mg "BadOperation" = some (.ref a.BadOperation)
  x_BadOperation : LkX.ExcTxt P K a.BadOperation a.i_BadOperation ["operation", "index"]
  e_BadOperation : ExcC K a.BadOperation ∧ XfC K a.BadOperation
  c_Illegal : mg "Illegal" = some (.ref a.Illegal)
  x_Illegal : LkX.ExcTxt P K a.Illegal a.i_Illegal ["operation", "index"]
  e_Illegal : ExcC K a.Illegal ∧ XfC K a.Illegal
  c_BadSize : mg "BadSize" = some (.ref a.BadSize)
  x_BadSize : LkX.ExcTxt P K a.BadSize a.i_BadSize ["size"]
  e_BadSize : ExcC K a.BadSize ∧ XfC K a.BadSize
  c_BadNode : mg "BadNode" = some (.ref a.BadNode)
  x_BadNode : LkX.ExcTxt P K a.BadNode a.i_BadNode ["node"]
  e_BadNode : ExcC K a.BadNode ∧ XfC K a.BadNode
  c_BadGap : mg "BadGap" = some (.ref a.BadGap)
  x_BadGap : LkX.ExcTxt P K a.BadGap a.i_BadGap ["gap"]
  e_BadGap : ExcC K a.BadGap ∧ XfC K a.BadGap
  c_BadDump : mg "BadDump" = some (.ref a.BadDump)
  x_BadDump : LkX.ExcTxt P K a.BadDump a.i_BadDump ["part"]
  e_BadDump : ExcC K a.BadDump ∧ XfC K a.BadDump
  c_NotRepairable : mg "NotRepairable" = some (.ref a.NotRepairable)
  x_NotRepairable : LkX.ExcTxt P K a.NotRepairable a.i_NotRepairable ["gap"]
  e_NotRepairable : ExcC K a.NotRepairable ∧ XfC K a.NotRepairable
  c_NotOnce : mg "NotOnce" = some (.ref a.NotOnce)
  x_NotOnce : LkX.ExcTxt P K a.NotOnce a.i_NotOnce ["index"]
  e_NotOnce : ExcC K a.NotOnce ∧ XfC K a.NotOnce
  t_BadOperation_LinkError : PySem.W.kitOne K (.ref a.BadOperation) (.ref a.LinkError) = some true ∧ PySem.W.exmOne K (.ref a.BadOperation) (.ref a.LinkError) = some true
  t_BadOperation_LogError : PySem.W.kitOne K (.ref a.BadOperation) (.ref a.LogError) = some true ∧ PySem.W.exmOne K (.ref a.BadOperation) (.ref a.LogError) = some true
  t_BadOperation_BadOperation : PySem.W.kitOne K (.ref a.BadOperation) (.ref a.BadOperation) = some true ∧ PySem.W.exmOne K (.ref a.BadOperation) (.ref a.BadOperation) = some true
  t_BadOperation_Illegal : PySem.W.kitOne K (.ref a.BadOperation) (.ref a.Illegal) = some false ∧ PySem.W.exmOne K (.ref a.BadOperation) (.ref a.Illegal) = some false
  t_BadOperation_BadSize : PySem.W.kitOne K (.ref a.BadOperation) (.ref a.BadSize) = some false ∧ PySem.W.exmOne K (.ref a.BadOperation) (.ref a.BadSize) = some false
  t_BadOperation_BadNode : PySem.W.kitOne K (.ref a.BadOperation) (.ref a.BadNode) = some false ∧ PySem.W.exmOne K (.ref a.BadOperation) (.ref a.BadNode) = some false
  t_BadOperation_BadGap : PySem.W.kitOne K (.ref a.BadOperation) (.ref a.BadGap) = some false ∧ PySem.W.exmOne K (.ref a.BadOperation) (.ref a.BadGap) = some false
  t_BadOperation_BadDump : PySem.W.kitOne K (.ref a.BadOperation) (.ref a.BadDump) = some false ∧ PySem.W.exmOne K (.ref a.BadOperation) (.ref a.BadDump) = some false
  t_BadOperation_NotRepairable : PySem.W.kitOne K (.ref a.BadOperation) (.ref a.NotRepairable) = some false ∧ PySem.W.exmOne K (.ref a.BadOperation) (.ref a.NotRepairable) = some false
  t_BadOperation_NotOnce : PySem.W.kitOne K (.ref a.BadOperation) (.ref a.NotOnce) = some false ∧ PySem.W.exmOne K (.ref a.BadOperation) (.ref a.NotOnce) = some false
  v_BadOperation : PySem.W.kitOne K (.ref a.BadOperation) (.type "ValueError") = some true
  t_Illegal_LinkError : PySem.W.kitOne K (.ref a.Illegal) (.ref a.LinkError) = some true ∧ PySem.W.exmOne K (.ref a.Illegal) (.ref a.LinkError) = some true
  t_Illegal_LogError : PySem.W.kitOne K (.ref a.Illegal) (.ref a.LogError) = some true ∧ PySem.W.exmOne K (.ref a.Illegal) (.ref a.LogError) = some true
  t_Illegal_BadOperation : PySem.W.kitOne K (.ref a.Illegal) (.ref a.BadOperation) = some false ∧ PySem.W.exmOne K (.ref a.Illegal) (.ref a.BadOperation) = some false
  t_Illegal_Illegal : PySem.W.kitOne K (.ref a.Illegal) (.ref a.Illegal) = some true ∧ PySem.W.exmOne K (.ref a.Illegal) (.ref a.Illegal) = some true
  t_Illegal_BadSize : PySem.W.kitOne K (.ref a.Illegal) (.ref a.BadSize) = some false ∧ PySem.W.exmOne K (.ref a.Illegal) (.ref a.BadSize) = some false
  t_Illegal_BadNode : PySem.W.kitOne K (.ref a.Illegal) (.ref a.BadNode) = some false ∧ PySem.W.exmOne K (.ref a.Illegal) (.ref a.BadNode) = some false
  t_Illegal_BadGap : PySem.W.kitOne K (.ref a.Illegal) (.ref a.BadGap) = some false ∧ PySem.W.exmOne K (.ref a.Illegal) (.ref a.BadGap) = some false
  t_Illegal_BadDump : PySem.W.kitOne K (.ref a.Illegal) (.ref a.BadDump) = some false ∧ PySem.W.exmOne K (.ref a.Illegal) (.ref a.BadDump) = some false
  t_Illegal_NotRepairable : PySem.W.kitOne K (.ref a.Illegal) (.ref a.NotRepairable) = some false ∧ PySem.W.exmOne K (.ref a.Illegal) (.ref a.NotRepairable) = some false
  t_Illegal_NotOnce : PySem.W.kitOne K (.ref a.Illegal) (.ref a.NotOnce) = some false ∧ PySem.W.exmOne K (.ref a.Illegal) (.ref a.NotOnce) = some false
  v_Illegal : PySem.W.kitOne K (.ref a.Illegal) (.type "ValueError") = some true
  t_BadSize_LinkError : PySem.W.kitOne K (.ref a.BadSize) (.ref a.LinkError) = some true ∧ PySem.W.exmOne K (.ref a.BadSize) (.ref a.LinkError) = some true
  t_BadSize_LogError : PySem.W.kitOne K (.ref a.BadSize) (.ref a.LogError) = some false ∧ PySem.W.exmOne K (.ref a.BadSize) (.ref a.LogError) = some false
  t_BadSize_BadOperation : PySem.W.kitOne K (.ref a.BadSize) (.ref a.BadOperation) = some false ∧ PySem.W.exmOne K (.ref a.BadSize) (.ref a.BadOperation) = some false
  t_BadSize_Illegal : PySem.W.kitOne K (.ref a.BadSize) (.ref a.Illegal) = some false ∧ PySem.W.exmOne K (.ref a.BadSize) (.ref a.Illegal) = some false
  t_BadSize_BadSize : PySem.W.kitOne K (.ref a.BadSize) (.ref a.BadSize) = some true ∧ PySem.W.exmOne K (.ref a.BadSize) (.ref a.BadSize) = some true
  t_BadSize_BadNode : PySem.W.kitOne K (.ref a.BadSize) (.ref a.BadNode) = some false ∧ PySem.W.exmOne K (.ref a.BadSize) (.ref a.BadNode) = some false
  t_BadSize_BadGap : PySem.W.kitOne K (.ref a.BadSize) (.ref a.BadGap) = some false ∧ PySem.W.exmOne K (.ref a.BadSize) (.ref a.BadGap) = some false
  t_BadSize_BadDump : PySem.W.kitOne K (.ref a.BadSize) (.ref a.BadDump) = some false ∧ PySem.W.exmOne K (.ref a.BadSize) (.ref a.BadDump) = some false
  t_BadSize_NotRepairable : PySem.W.kitOne K (.ref a.BadSize) (.ref a.NotRepairable) = some false ∧ PySem.W.exmOne K (.ref a.BadSize) (.ref a.NotRepairable) = some false
  t_BadSize_NotOnce : PySem.W.kitOne K (.ref a.BadSize) (.ref a.NotOnce) = some false ∧ PySem.W.exmOne K (.ref a.BadSize) (.ref a.NotOnce) = some false
  v_BadSize : PySem.W.kitOne K (.ref a.BadSize) (.type "ValueError") = some true
  t_BadNode_LinkError : PySem.W.kitOne K (.ref a.BadNode) (.ref a.LinkError) = some true ∧ PySem.W.exmOne K (.ref a.BadNode) (.ref a.LinkError) = some true
  t_BadNode_LogError : PySem.W.kitOne K (.ref a.BadNode) (.ref a.LogError) = some false ∧ PySem.W.exmOne K (.ref a.BadNode) (.ref a.LogError) = some false
  t_BadNode_BadOperation : PySem.W.kitOne K (.ref a.BadNode) (.ref a.BadOperation) = some false ∧ PySem.W.exmOne K (.ref a.BadNode) (.ref a.BadOperation) = some false
  t_BadNode_Illegal : PySem.W.kitOne K (.ref a.BadNode) (.ref a.Illegal) = some false ∧ PySem.W.exmOne K (.ref a.BadNode) (.ref a.Illegal) = some false
  t_BadNode_BadSize : PySem.W.kitOne K (.ref a.BadNode) (.ref a.BadSize) = some false ∧ PySem.W.exmOne K (.ref a.BadNode) (.ref a.BadSize) = some false
  t_BadNode_BadNode : PySem.W.kitOne K (.ref a.BadNode) (.ref a.BadNode) = some true ∧ PySem.W.exmOne K (.ref a.BadNode) (.ref a.BadNode) = some true
  t_BadNode_BadGap : PySem.W.kitOne K (.ref a.BadNode) (.ref a.BadGap) = some false ∧ PySem.W.exmOne K (.ref a.BadNode) (.ref a.BadGap) = some false
  t_BadNode_BadDump : PySem.W.kitOne K (.ref a.BadNode) (.ref a.BadDump) = some false ∧ PySem.W.exmOne K (.ref a.BadNode) (.ref a.BadDump) = some false
  t_BadNode_NotRepairable : PySem.W.kitOne K (.ref a.BadNode) (.ref a.NotRepairable) = some false ∧ PySem.W.exmOne K (.ref a.BadNode) (.ref a.NotRepairable) = some false
  t_BadNode_NotOnce : PySem.W.kitOne K (.ref a.BadNode) (.ref a.NotOnce) = some false ∧ PySem.W.exmOne K (.ref a.BadNode) (.ref a.NotOnce) = some false
  v_BadNode : PySem.W.kitOne K (.ref a.BadNode) (.type "ValueError") = some true
  t_BadGap_LinkError : PySem.W.kitOne K (.ref a.BadGap) (.ref a.LinkError) = some true ∧ PySem.W.exmOne K (.ref a.BadGap) (.ref a.LinkError) = some true
  t_BadGap_LogError : PySem.W.kitOne K (.ref a.BadGap) (.ref a.LogError) = some false ∧ PySem.W.exmOne K (.ref a.BadGap) (.ref a.LogError) = some false
  t_BadGap_BadOperation : PySem.W.kitOne K (.ref a.BadGap) (.ref a.BadOperation) = some false ∧ PySem.W.exmOne K (.ref a.BadGap) (.ref a.BadOperation) = some false
  t_BadGap_Illegal : PySem.W.kitOne K (.ref a.BadGap) (.ref a.Illegal) = some false ∧ PySem.W.exmOne K (.ref a.BadGap) (.ref a.Illegal) = some false
  t_BadGap_BadSize : PySem.W.kitOne K (.ref a.BadGap) (.ref a.BadSize) = some false ∧ PySem.W.exmOne K (.ref a.BadGap) (.ref a.BadSize) = some false
  t_BadGap_BadNode : PySem.W.kitOne K (.ref a.BadGap) (.ref a.BadNode) = some false ∧ PySem.W.exmOne K (.ref a.BadGap) (.ref a.BadNode) = some false
  t_BadGap_BadGap : PySem.W.kitOne K (.ref a.BadGap) (.ref a.BadGap) = some true ∧ PySem.W.exmOne K (.ref a.BadGap) (.ref a.BadGap) = some true
  t_BadGap_BadDump : PySem.W.kitOne K (.ref a.BadGap) (.ref a.BadDump) = some false ∧ PySem.W.exmOne K (.ref a.BadGap) (.ref a.BadDump) = some false
  t_BadGap_NotRepairable : PySem.W.kitOne K (.ref a.BadGap) (.ref a.NotRepairable) = some false ∧ PySem.W.exmOne K (.ref a.BadGap) (.ref a.NotRepairable) = some false
  t_BadGap_NotOnce : PySem.W.kitOne K (.ref a.BadGap) (.ref a.NotOnce) = some false ∧ PySem.W.exmOne K (.ref a.BadGap) (.ref a.NotOnce) = some false
  v_BadGap : PySem.W.kitOne K (.ref a.BadGap) (.type "ValueError") = some true
  t_BadDump_LinkError : PySem.W.kitOne K (.ref a.BadDump) (.ref a.LinkError) = some true ∧ PySem.W.exmOne K (.ref a.BadDump) (.ref a.LinkError) = some true
  t_BadDump_LogError : PySem.W.kitOne K (.ref a.BadDump) (.ref a.LogError) = some false ∧ PySem.W.exmOne K (.ref a.BadDump) (.ref a.LogError) = some false
  t_BadDump_BadOperation : PySem.W.kitOne K (.ref a.BadDump) (.ref a.BadOperation) = some false ∧ PySem.W.exmOne K (.ref a.BadDump) (.ref a.BadOperation) = some false
  t_BadDump_Illegal : PySem.W.kitOne K (.ref a.BadDump) (.ref a.Illegal) = some false ∧ PySem.W.exmOne K (.ref a.BadDump) (.ref a.Illegal) = some false
  t_BadDump_BadSize : PySem.W.kitOne K (.ref a.BadDump) (.ref a.BadSize) = some false ∧ PySem.W.exmOne K (.ref a.BadDump) (.ref a.BadSize) = some false
  t_BadDump_BadNode : PySem.W.kitOne K (.ref a.BadDump) (.ref a.BadNode) = some false ∧ PySem.W.exmOne K (.ref a.BadDump) (.ref a.BadNode) = some false
  t_BadDump_BadGap : PySem.W.kitOne K (.ref a.BadDump) (.ref a.BadGap) = some false ∧ PySem.W.exmOne K (.ref a.BadDump) (.ref a.BadGap) = some false
  t_BadDump_BadDump : PySem.W.kitOne K (.ref a.BadDump) (.ref a.BadDump) = some true ∧ PySem.W.exmOne K (.ref a.BadDump) (.ref a.BadDump) = some true
  t_BadDump_NotRepairable : PySem.W.kitOne K (.ref a.BadDump) (.ref a.NotRepairable) = some false ∧ PySem.W.exmOne K (.ref a.BadDump) (.ref a.NotRepairable) = some false
  t_BadDump_NotOnce : PySem.W.kitOne K (.ref a.BadDump) (.ref a.NotOnce) = some false ∧ PySem.W.exmOne K (.ref a.BadDump) (.ref a.NotOnce) = some false
  v_BadDump : PySem.W.kitOne K (.ref a.BadDump) (.type "ValueError") = some true
  t_NotRepairable_LinkError : PySem.W.kitOne K (.ref a.NotRepairable) (.ref a.LinkError) = some true ∧ PySem.W.exmOne K (.ref a.NotRepairable) (.ref a.LinkError) = some true
  t_NotRepairable_LogError : PySem.W.kitOne K (.ref a.NotRepairable) (.ref a.LogError) = some false ∧ PySem.W.exmOne K (.ref a.NotRepairable) (.ref a.LogError) = some false
  t_NotRepairable_BadOperation : PySem.W.kitOne K (.ref a.NotRepairable) (.ref a.BadOperation) = some false ∧ PySem.W.exmOne K (.ref a.NotRepairable) (.ref a.BadOperation) = some false
  t_NotRepairable_Illegal : PySem.W.kitOne K (.ref a.NotRepairable) (.ref a.Illegal) = some false ∧ PySem.W.exmOne K (.ref a.NotRepairable) (.ref a.Illegal) = some false
  t_NotRepairable_BadSize : PySem.W.kitOne K (.ref a.NotRepairable) (.ref a.BadSize) = some false ∧ PySem.W.exmOne K (.ref a.NotRepairable) (.ref a.BadSize) = some false
  t_NotRepairable_BadNode : PySem.W.kitOne K (.ref a.NotRepairable) (.ref a.BadNode) = some false ∧ PySem.W.exmOne K (.ref a.NotRepairable) (.ref a.BadNode) = some false
  t_NotRepairable_BadGap : PySem.W.kitOne K (.ref a.NotRepairable) (.ref a.BadGap) = some false ∧ PySem.W.exmOne K (.ref a.NotRepairable) (.ref a.BadGap) = some false
  t_NotRepairable_BadDump : PySem.W.kitOne K (.ref a.NotRepairable) (.ref a.BadDump) = some false ∧ PySem.W.exmOne K (.ref a.NotRepairable) (.ref a.BadDump) = some false
  t_NotRepairable_NotRepairable : PySem.W.kitOne K (.ref a.NotRepairable) (.ref a.NotRepairable) = some true ∧ PySem.W.exmOne K (.ref a.NotRepairable) (.ref a.NotRepairable) = some true
  t_NotRepairable_NotOnce : PySem.W.kitOne K (.ref a.NotRepairable) (.ref a.NotOnce) = some false ∧ PySem.W.exmOne K (.ref a.NotRepairable) (.ref a.NotOnce) = some false
  v_NotRepairable : PySem.W.kitOne K (.ref a.NotRepairable) (.type "ValueError") = some true
  t_NotOnce_LinkError : PySem.W.kitOne K (.ref a.NotOnce) (.ref a.LinkError) = some true ∧ PySem.W.exmOne K (.ref a.NotOnce) (.ref a.LinkError) = some true
  t_NotOnce_LogError : PySem.W.kitOne K (.ref a.NotOnce) (.ref a.LogError) = some false ∧ PySem.W.exmOne K (.ref a.NotOnce) (.ref a.LogError) = some false
  t_NotOnce_BadOperation : PySem.W.kitOne K (.ref a.NotOnce) (.ref a.BadOperation) = some false ∧ PySem.W.exmOne K (.ref a.NotOnce) (.ref a.BadOperation) = some false
  t_NotOnce_Illegal : PySem.W.kitOne K (.ref a.NotOnce) (.ref a.Illegal) = some false ∧ PySem.W.exmOne K (.ref a.NotOnce) (.ref a.Illegal) = some false
  t_NotOnce_BadSize : PySem.W.kitOne K (.ref a.NotOnce) (.ref a.BadSize) = some false ∧ PySem.W.exmOne K (.ref a.NotOnce) (.ref a.BadSize) = some false
  t_NotOnce_BadNode : PySem.W.kitOne K (.ref a.NotOnce) (.ref a.BadNode) = some false ∧ PySem.W.exmOne K (.ref a.NotOnce) (.ref a.BadNode) = some false
  t_NotOnce_BadGap : PySem.W.kitOne K (.ref a.NotOnce) (.ref a.BadGap) = some false ∧ PySem.W.exmOne K (.ref a.NotOnce) (.ref a.BadGap) = some false
  t_NotOnce_BadDump : PySem.W.kitOne K (.ref a.NotOnce) (.ref a.BadDump) = some false ∧ PySem.W.exmOne K (.ref a.NotOnce) (.ref a.BadDump) = some false
  t_NotOnce_NotRepairable : PySem.W.kitOne K (.ref a.NotOnce) (.ref a.NotRepairable) = some false ∧ PySem.W.exmOne K (.ref a.NotOnce) (.ref a.NotRepairable) = some false
  t_NotOnce_NotOnce : PySem.W.kitOne K (.ref a.NotOnce) (.ref a.NotOnce) = some true ∧ PySem.W.exmOne K (.ref a.NotOnce) (.ref a.NotOnce) = some true
  v_NotOnce : PySem.W.kitOne K (.ref a.NotOnce) (.type "ValueError") = some true
  b_ValueError : mg "ValueError" = none
  b_enumerate : mg "enumerate" = none
  b_range : mg "range" = none
  b_sum : mg "sum" = none
  b_abs : mg "abs" = none
  b_max : mg "max" = none
  b_len : mg "len" = none
  b_list : mg "list" = none
  b_int : mg "int" = none
  b_min : mg "min" = none
  b_isinstance : mg "isinstance" = none
  b_str : mg "str" = none
  b_bool : mg "bool" = none
  b_tuple : mg "tuple" = none
  b_super : mg "super" = none
  k_MOST_NODES : ∃ t, mg "MOST_NODES" = some (.int 60 t)
  k_MOST_DIGITS : ∃ t, mg "MOST_DIGITS" = some (.int 9 t)
  k_PARTS : ∃ t, mg "PARTS" = some (.int 3 t)
def xBadOperation (a : AD) (v0 : V) (v1 : V) (E : XK) (H : Hp) : Prop := ∀ d H', H d = none → H' d = some (.xd [("operation", v0), ("index", v1)]) → Kp [] H H' → E (.ref a.BadOperation) (some d) H'
def xIllegal (a : AD) (v0 : V) (v1 : V) (E : XK) (H : Hp) : Prop := ∀ d H', H d = none → H' d = some (.xd [("operation", v0), ("index", v1)]) → Kp [] H H' → E (.ref a.Illegal) (some d) H'
def xBadSize (a : AD) (v0 : V) (E : XK) (H : Hp) : Prop := ∀ d H', H d = none → H' d = some (.xd [("size", v0)]) → Kp [] H H' → E (.ref a.BadSize) (some d) H'
def xBadNode (a : AD) (v0 : V) (E : XK) (H : Hp) : Prop := ∀ d H', H d = none → H' d = some (.xd [("node", v0)]) → Kp [] H H' → E (.ref a.BadNode) (some d) H'
def xBadGap (a : AD) (v0 : V) (E : XK) (H : Hp) : Prop := ∀ d H', H d = none → H' d = some (.xd [("gap", v0)]) → Kp [] H H' → E (.ref a.BadGap) (some d) H'
def xBadDump (a : AD) (v0 : V) (E : XK) (H : Hp) : Prop := ∀ d H', H d = none → H' d = some (.xd [("part", v0)]) → Kp [] H H' → E (.ref a.BadDump) (some d) H'
def xNotRepairable (a : AD) (v0 : V) (E : XK) (H : Hp) : Prop := ∀ d H', H d = none → H' d = some (.xd [("gap", v0)]) → Kp [] H H' → E (.ref a.NotRepairable) (some d) H'
def xNotOnce (a : AD) (v0 : V) (E : XK) (H : Hp) : Prop := ∀ d H', H d = none → H' d = some (.xd [("index", v0)]) → Kp [] H H' → E (.ref a.NotOnce) (some d) H'
local macro_rules | `(tactic| walk_at "ef") => `(tactic| with_reducible first | exact (Txt.e_BadOperation (by assumption)).1 | exact (Txt.e_BadOperation (by assumption)).2 | exact (Txt.e_Illegal (by assumption)).1 | exact (Txt.e_Illegal (by assumption)).2 | exact (Txt.e_BadSize (by assumption)).1 | exact (Txt.e_BadSize (by assumption)).2 | exact (Txt.e_BadNode (by assumption)).1 | exact (Txt.e_BadNode (by assumption)).2 | exact (Txt.e_BadGap (by assumption)).1 | exact (Txt.e_BadGap (by assumption)).2 | exact (Txt.e_BadDump (by assumption)).1 | exact (Txt.e_BadDump (by assumption)).2 | exact (Txt.e_NotRepairable (by assumption)).1 | exact (Txt.e_NotRepairable (by assumption)).2 | exact (Txt.e_NotOnce (by assumption)).1 | exact (Txt.e_NotOnce (by assumption)).2)
local macro_rules | `(tactic| walk_at "et") => `(tactic| with_reducible first | exact Txt.v_BadOperation (by assumption) | exact (Txt.t_BadOperation_LinkError (by assumption)).1 | exact (Txt.t_BadOperation_LogError (by assumption)).1 | exact (Txt.t_BadOperation_BadOperation (by assumption)).1 | exact (Txt.t_BadOperation_Illegal (by assumption)).1 | exact (Txt.t_BadOperation_BadSize (by assumption)).1 | exact (Txt.t_BadOperation_BadNode (by assumption)).1 | exact (Txt.t_BadOperation_BadGap (by assumption)).1 | exact (Txt.t_BadOperation_BadDump (by assumption)).1 | exact (Txt.t_BadOperation_NotRepairable (by assumption)).1 | exact (Txt.t_BadOperation_NotOnce (by assumption)).1 | exact Txt.v_Illegal (by assumption) | exact (Txt.t_Illegal_LinkError (by assumption)).1 | exact (Txt.t_Illegal_LogError (by assumption)).1 | exact (Txt.t_Illegal_BadOperation (by assumption)).1 | exact (Txt.t_Illegal_Illegal (by assumption)).1 | exact (Txt.t_Illegal_BadSize (by assumption)).1 | exact (Txt.t_Illegal_BadNode (by assumption)).1 | exact (Txt.t_Illegal_BadGap (by assumption)).1 | exact (Txt.t_Illegal_BadDump (by assumption)).1 | exact (Txt.t_Illegal_NotRepairable (by assumption)).1 | exact (Txt.t_Illegal_NotOnce (by assumption)).1 | exact Txt.v_BadSize (by assumption) | exact (Txt.t_BadSize_LinkError (by assumption)).1 | exact (Txt.t_BadSize_LogError (by assumption)).1 | exact (Txt.t_BadSize_BadOperation (by assumption)).1 | exact (Txt.t_BadSize_Illegal (by assumption)).1 | exact (Txt.t_BadSize_BadSize (by assumption)).1 | exact (Txt.t_BadSize_BadNode (by assumption)).1 | exact (Txt.t_BadSize_BadGap (by assumption)).1 | exact (Txt.t_BadSize_BadDump (by assumption)).1 | exact (Txt.t_BadSize_NotRepairable (by assumption)).1 | exact (Txt.t_BadSize_NotOnce (by assumption)).1 | exact Txt.v_BadNode (by assumption) | exact (Txt.t_BadNode_LinkError (by assumption)).1 | exact (Txt.t_BadNode_LogError (by assumption)).1 | exact (Txt.t_BadNode_BadOperation (by assumption)).1 | exact (Txt.t_BadNode_Illegal (by assumption)).1 | exact (Txt.t_BadNode_BadSize (by assumption)).1 | exact (Txt.t_BadNode_BadNode (by assumption)).1 | exact (Txt.t_BadNode_BadGap (by assumption)).1 | exact (Txt.t_BadNode_BadDump (by assumption)).1 | exact (Txt.t_BadNode_NotRepairable (by assumption)).1 | exact (Txt.t_BadNode_NotOnce (by assumption)).1 | exact Txt.v_BadGap (by assumption) | exact (Txt.t_BadGap_LinkError (by assumption)).1 | exact (Txt.t_BadGap_LogError (by assumption)).1 | exact (Txt.t_BadGap_BadOperation (by assumption)).1 | exact (Txt.t_BadGap_Illegal (by assumption)).1 | exact (Txt.t_BadGap_BadSize (by assumption)).1 | exact (Txt.t_BadGap_BadNode (by assumption)).1 | exact (Txt.t_BadGap_BadGap (by assumption)).1 | exact (Txt.t_BadGap_BadDump (by assumption)).1 | exact (Txt.t_BadGap_NotRepairable (by assumption)).1 | exact (Txt.t_BadGap_NotOnce (by assumption)).1 | exact Txt.v_BadDump (by assumption) | exact (Txt.t_BadDump_LinkError (by assumption)).1 | exact (Txt.t_BadDump_LogError (by assumption)).1 | exact (Txt.t_BadDump_BadOperation (by assumption)).1 | exact (Txt.t_BadDump_Illegal (by assumption)).1 | exact (Txt.t_BadDump_BadSize (by assumption)).1 | exact (Txt.t_BadDump_BadNode (by assumption)).1 | exact (Txt.t_BadDump_BadGap (by assumption)).1 | exact (Txt.t_BadDump_BadDump (by assumption)).1 | exact (Txt.t_BadDump_NotRepairable (by assumption)).1 | exact (Txt.t_BadDump_NotOnce (by assumption)).1 | exact Txt.v_NotRepairable (by assumption) | exact (Txt.t_NotRepairable_LinkError (by assumption)).1 | exact (Txt.t_NotRepairable_LogError (by assumption)).1 | exact (Txt.t_NotRepairable_BadOperation (by assumption)).1 | exact (Txt.t_NotRepairable_Illegal (by assumption)).1 | exact (Txt.t_NotRepairable_BadSize (by assumption)).1 | exact (Txt.t_NotRepairable_BadNode (by assumption)).1 | exact (Txt.t_NotRepairable_BadGap (by assumption)).1 | exact (Txt.t_NotRepairable_BadDump (by assumption)).1 | exact (Txt.t_NotRepairable_NotRepairable (by assumption)).1 | exact (Txt.t_NotRepairable_NotOnce (by assumption)).1 | exact Txt.v_NotOnce (by assumption) | exact (Txt.t_NotOnce_LinkError (by assumption)).1 | exact (Txt.t_NotOnce_LogError (by assumption)).1 | exact (Txt.t_NotOnce_BadOperation (by assumption)).1 | exact (Txt.t_NotOnce_Illegal (by assumption)).1 | exact (Txt.t_NotOnce_BadSize (by assumption)).1 | exact (Txt.t_NotOnce_BadNode (by assumption)).1 | exact (Txt.t_NotOnce_BadGap (by assumption)).1 | exact (Txt.t_NotOnce_BadDump (by assumption)).1 | exact (Txt.t_NotOnce_NotRepairable (by assumption)).1 | exact (Txt.t_NotOnce_NotOnce (by assumption)).1)
local macro_rules | `(tactic| walk_at "fi") => `(tactic| with_reducible first | exact (Txt.x_BadOperation (by assumption)).noN _ (by decide) | exact (Txt.x_Illegal (by assumption)).noN _ (by decide) | exact (Txt.x_BadSize (by assumption)).noN _ (by decide) | exact (Txt.x_BadNode (by assumption)).noN _ (by decide) | exact (Txt.x_BadGap (by assumption)).noN _ (by decide) | exact (Txt.x_BadDump (by assumption)).noN _ (by decide) | exact (Txt.x_NotRepairable (by assumption)).noN _ (by decide) | exact (Txt.x_NotOnce (by assumption)).noN _ (by decide))
local macro_rules | `(tactic| walk_at "cl") => `(tactic| with_reducible first | exact Txt.cl_Links (by assumption))
local macro_rules | `(tactic| walk_at "na") => `(tactic| with_reducible first | exact Txt.na_Links_size (by assumption) | exact Txt.na_Links__lefts (by assumption) | exact Txt.na_Links__rights (by assumption) | exact Txt.na_Links__flags (by assumption))
local macro_rules | `(tactic| walk_at "rd") => `(tactic| with_reducible first | exact Txt.rd_Links (by assumption))
local macro_rules | `(tactic| walk_at "cv") => `(tactic| with_reducible first | exact (Txt.cv_Links_MOST (by assumption)).choose_spec)
/-! ### what the checks ask -/
def IsOp (n o : Int) : Prop := o ≠ 0 ∧ (o.natAbs : Int) ≤ n
instance (n o : Int) : Decidable (IsOp n o) := inferInstanceAs (Decidable (_ ∧ _))
def sp_check_size (a : AD) : Sp := fun vs H Q E => ∃ n : Int, vs = [.int n] ∧ (¬(0 ≤ n ∧ n ≤ 60) → xBadSize a (.int n) E H) ∧ (0 ≤ n → n ≤ 60 → Q .non H)
def sp_check_operation (a : AD) : Sp := fun vs H Q E => ∃ n o i : Int, vs = [.int n, .int o, .int i] ∧ (¬IsOp n o → xBadOperation a (.int o) (.int i) E H) ∧ (IsOp n o → Q .non H)
theorem sc_check_size : FnScope ["size"] ["size"] (defScope s_check_size) := ⟨rfl, rfl, rfl, by decide +kernel, rfl, by decide +kernel, by decide +kernel⟩
theorem ok_check_size {P : Program} {w : World} {K : PySem.W.Frag} {mg : Str → Option Value} {base : Heap} {a : AD} (T : Txt P K mg a) : FnA P w K mg base 2 a.f_check_size ["size"] (sp_check_size a) := by
  obtain ⟨fd, F, b⟩ := T.F_check_size
  refine FnA.of F sc_check_size b (fun vs H Q E h => by first | (obtain ⟨rfl, _⟩ := h; rfl) | (obtain ⟨_, rfl, _⟩ := h; rfl) | (obtain ⟨_, _, rfl, _⟩ := h; rfl) | (obtain ⟨_, _, _, rfl, _⟩ := h; rfl) | (obtain ⟨_, _, _, _, rfl, _⟩ := h; rfl) | (obtain ⟨_, _, _, _, _, rfl, _⟩ := h; rfl) | (obtain ⟨_, _, _, _, _, _, rfl, _⟩ := h; rfl) | (obtain ⟨_, _, _, _, _, _, _, rfl, _⟩ := h; rfl) | (obtain ⟨_, _, _, _, _, _, _, _, rfl, _⟩ := h; rfl) | (obtain ⟨_, _, _, _, _, _, _, _, _, rfl, _⟩ := h; rfl) | (obtain ⟨_, _, _, _, _, _, _, _, _, _, rfl, _⟩ := h; rfl) | (obtain ⟨_, _, _, _, _, _, _, _, _, _, _, rfl, _⟩ := h; rfl) | (obtain ⟨_, _, _, _, _, _, _, _, _, _, _, _, rfl, _⟩ := h; rfl) | (obtain ⟨_, _, _, _, _, _, _, _, _, _, _, _, _, rfl, _⟩ := h; rfl) | (obtain ⟨_, _, _, _, _, _, _, _, _, _, _, _, _, _, rfl, _⟩ := h; rfl) | (obtain ⟨_, _, _, _, _, _, _, _, _, _, _, _, _, _, _, rfl, _⟩ := h; rfl) | (obtain ⟨_, _, _, _, _, _, _, _, _, _, _, _, _, _, _, _, rfl, _⟩ := h; rfl) | (obtain ⟨_, _, _, _, _, _, _, _, _, _, _, _, _, _, _, _, _, rfl, _⟩ := h; rfl) | (obtain ⟨_, _, _, _, _, _, _, _, _, _, _, _, _, _, _, _, _, _, rfl, _⟩ := h; rfl) | (obtain ⟨_, _, _, _, _, _, _, _, _, _, _, _, _, _, _, _, _, _, _, rfl, _⟩ := h; rfl) | (obtain ⟨_, _, _, _, _, _, _, _, _, _, _, _, _, _, _, _, _, _, _, _, rfl, _⟩ := h; rfl) | (obtain ⟨_, _, _, _, _, _, _, _, _, _, _, _, _, _, _, _, _, _, _, _, _, rfl, _⟩ := h; rfl) | (obtain ⟨_, _, _, _, _, _, _, _, _, _, _, _, _, _, _, _, _, _, _, _, _, _, rfl, _⟩ := h; rfl) | (obtain ⟨_, _, _, _, _, _, _, _, _, _, _, _, _, _, _, _, _, _, _, _, _, _, _, rfl, _⟩ := h; rfl)) (fun cdv A outer s H vs Q E hr tk pz h => ?_)
  have hu := hr.units
  have hrH := L2H.roomH_of hr
  obtain ⟨n, rfl, h1, h2⟩ := h
  refine ⟨_, (pss_one (ps_if (pt_not (pt_chainA op_le op_le pe_int (pv 0) (T.k_MOST_NODES.elim fun t hm => pe_glob (v := .int 60) rfl hm ⟨t, rfl⟩))) (pss_one (L2N.ps_raise rfl tk (Lk.pmk_own T.x_BadSize (List.cons_ne_nil _ _) hr T.c_BadSize (by exact (pa_cons (pv 0) pa_nil)) rfl))) pss_nil)), ?_⟩
  show (_ : Ends → L2.St → Hp → Prop) _ [some _] _
  try dsimp only [L2H.cxH, cxOf]
  walk_at "w"
  refine w_ite (fun c1 => ?_) (fun c1 => ?_)
  · walk_at "w"
    refine w_iteN (fun c2 => ?_) (fun c2 => ?_)
    · walk_at "w"
      refine ⟨rfl, fun d hd => h1 (fun z => c2 z.2) d _ hd upd_same (Kp.refl.new hd)⟩
    · walk_at "w"
      exact h2 c1 c2
  · walk_at "w"
    refine ⟨rfl, fun d hd => h1 (fun z => c1 z.1) d _ hd upd_same (Kp.refl.new hd)⟩
theorem sc_check_operation : FnScope ["size", "operation", "index"] ["size", "operation", "index"] (defScope s_check_operation) := ⟨rfl, rfl, rfl, by decide +kernel, rfl, by decide +kernel, by decide +kernel⟩
theorem ok_check_operation {P : Program} {w : World} {K : PySem.W.Frag} {mg : Str → Option Value} {base : Heap} {a : AD} (T : Txt P K mg a) : FnA P w K mg base 2 a.f_check_operation ["size", "operation", "index"] (sp_check_operation a) := by
  obtain ⟨fd, F, b⟩ := T.F_check_operation
  refine FnA.of F sc_check_operation b (fun vs H Q E h => by first | (obtain ⟨rfl, _⟩ := h; rfl) | (obtain ⟨_, rfl, _⟩ := h; rfl) | (obtain ⟨_, _, rfl, _⟩ := h; rfl) | (obtain ⟨_, _, _, rfl, _⟩ := h; rfl) | (obtain ⟨_, _, _, _, rfl, _⟩ := h; rfl) | (obtain ⟨_, _, _, _, _, rfl, _⟩ := h; rfl) | (obtain ⟨_, _, _, _, _, _, rfl, _⟩ := h; rfl) | (obtain ⟨_, _, _, _, _, _, _, rfl, _⟩ := h; rfl) | (obtain ⟨_, _, _, _, _, _, _, _, rfl, _⟩ := h; rfl) | (obtain ⟨_, _, _, _, _, _, _, _, _, rfl, _⟩ := h; rfl) | (obtain ⟨_, _, _, _, _, _, _, _, _, _, rfl, _⟩ := h; rfl) | (obtain ⟨_, _, _, _, _, _, _, _, _, _, _, rfl, _⟩ := h; rfl) | (obtain ⟨_, _, _, _, _, _, _, _, _, _, _, _, rfl, _⟩ := h; rfl) | (obtain ⟨_, _, _, _, _, _, _, _, _, _, _, _, _, rfl, _⟩ := h; rfl) | (obtain ⟨_, _, _, _, _, _, _, _, _, _, _, _, _, _, rfl, _⟩ := h; rfl) | (obtain ⟨_, _, _, _, _, _, _, _, _, _, _, _, _, _, _, rfl, _⟩ := h; rfl) | (obtain ⟨_, _, _, _, _, _, _, _, _, _, _, _, _, _, _, _, rfl, _⟩ := h; rfl) | (obtain ⟨_, _, _, _, _, _, _, _, _, _, _, _, _, _, _, _, _, rfl, _⟩ := h; rfl) | (obtain ⟨_, _, _, _, _, _, _, _, _, _, _, _, _, _, _, _, _, _, rfl, _⟩ := h; rfl) | (obtain ⟨_, _, _, _, _, _, _, _, _, _, _, _, _, _, _, _, _, _, _, rfl, _⟩ := h; rfl) | (obtain ⟨_, _, _, _, _, _, _, _, _, _, _, _, _, _, _, _, _, _, _, _, rfl, _⟩ := h; rfl) | (obtain ⟨_, _, _, _, _, _, _, _, _, _, _, _, _, _, _, _, _, _, _, _, _, rfl, _⟩ := h; rfl) | (obtain ⟨_, _, _, _, _, _, _, _, _, _, _, _, _, _, _, _, _, _, _, _, _, _, rfl, _⟩ := h; rfl) | (obtain ⟨_, _, _, _, _, _, _, _, _, _, _, _, _, _, _, _, _, _, _, _, _, _, _, rfl, _⟩ := h; rfl)) (fun cdv A outer s H vs Q E hr tk pz h => ?_)
  have hu := hr.units
  have hrH := L2H.roomH_of hr
  obtain ⟨n, o, i, rfl, h1, h2⟩ := h
  refine ⟨_, (pss_one (ps_if (PW.pt (pw_or (pt_cmpA (o_eq hu) (pv 1) pe_int (nomark _)) (pw_or1 (pt_cmpA op_gt (pe_callB (b_abs) rfl T.b_abs (by decide +kernel) (pa_cons (pv 1) pa_nil)) (pv 0) (nomark _))))) (pss_one (L2N.ps_raise rfl tk (Lk.pmk_own T.x_BadOperation (List.cons_ne_nil _ _) hr T.c_BadOperation (by exact (pa_cons (pv 1) (pa_cons (pv 2) pa_nil))) rfl))) pss_nil)), ?_⟩
  show (_ : Ends → L2.St → Hp → Prop) _ [some _, some _, some _] _
  try dsimp only [L2H.cxH, cxOf]
  walk_at "w"
  refine w_ite (fun c1 => ?_) (fun c1 => ?_)
  · walk_at "w"
    refine ⟨rfl, fun d hd => h1 (fun z => z.1 c1) d _ hd upd_same (Kp.refl.new hd)⟩
  · walk_at "w"
    refine w_ite (fun c2 => ?_) (fun c2 => ?_)
    · walk_at "w"
      refine ⟨rfl, fun d hd => h1 (fun z => by have := z.2; omega) d _ hd upd_same (Kp.refl.new hd)⟩
    · walk_at "w"
      exact h2 ⟨c1, by omega⟩
def sp_check_gap (a : AD) : Sp := fun vs H Q E => ∃ n g : Int, vs = [.int n, .int g] ∧ (¬(0 ≤ g ∧ g ≤ n) → xBadGap a (.int g) E H) ∧ (0 ≤ g → g ≤ n → Q .non H)
theorem sc_check_gap : FnScope ["size", "gap"] ["size", "gap"] (defScope s_check_gap) := ⟨rfl, rfl, rfl, by decide +kernel, rfl, by decide +kernel, by decide +kernel⟩
theorem ok_check_gap {P : Program} {w : World} {K : PySem.W.Frag} {mg : Str → Option Value} {base : Heap} {a : AD} (T : Txt P K mg a) : FnA P w K mg base 2 a.f_check_gap ["size", "gap"] (sp_check_gap a) := by
  obtain ⟨fd, F, b⟩ := T.F_check_gap
  refine FnA.of F sc_check_gap b (fun vs H Q E h => by first | (obtain ⟨rfl, _⟩ := h; rfl) | (obtain ⟨_, rfl, _⟩ := h; rfl) | (obtain ⟨_, _, rfl, _⟩ := h; rfl) | (obtain ⟨_, _, _, rfl, _⟩ := h; rfl) | (obtain ⟨_, _, _, _, rfl, _⟩ := h; rfl) | (obtain ⟨_, _, _, _, _, rfl, _⟩ := h; rfl) | (obtain ⟨_, _, _, _, _, _, rfl, _⟩ := h; rfl) | (obtain ⟨_, _, _, _, _, _, _, rfl, _⟩ := h; rfl) | (obtain ⟨_, _, _, _, _, _, _, _, rfl, _⟩ := h; rfl) | (obtain ⟨_, _, _, _, _, _, _, _, _, rfl, _⟩ := h; rfl) | (obtain ⟨_, _, _, _, _, _, _, _, _, _, rfl, _⟩ := h; rfl) | (obtain ⟨_, _, _, _, _, _, _, _, _, _, _, rfl, _⟩ := h; rfl) | (obtain ⟨_, _, _, _, _, _, _, _, _, _, _, _, rfl, _⟩ := h; rfl) | (obtain ⟨_, _, _, _, _, _, _, _, _, _, _, _, _, rfl, _⟩ := h; rfl) | (obtain ⟨_, _, _, _, _, _, _, _, _, _, _, _, _, _, rfl, _⟩ := h; rfl) | (obtain ⟨_, _, _, _, _, _, _, _, _, _, _, _, _, _, _, rfl, _⟩ := h; rfl) | (obtain ⟨_, _, _, _, _, _, _, _, _, _, _, _, _, _, _, _, rfl, _⟩ := h; rfl) | (obtain ⟨_, _, _, _, _, _, _, _, _, _, _, _, _, _, _, _, _, rfl, _⟩ := h; rfl) | (obtain ⟨_, _, _, _, _, _, _, _, _, _, _, _, _, _, _, _, _, _, rfl, _⟩ := h; rfl) | (obtain ⟨_, _, _, _, _, _, _, _, _, _, _, _, _, _, _, _, _, _, _, rfl, _⟩ := h; rfl) | (obtain ⟨_, _, _, _, _, _, _, _, _, _, _, _, _, _, _, _, _, _, _, _, rfl, _⟩ := h; rfl) | (obtain ⟨_, _, _, _, _, _, _, _, _, _, _, _, _, _, _, _, _, _, _, _, _, rfl, _⟩ := h; rfl) | (obtain ⟨_, _, _, _, _, _, _, _, _, _, _, _, _, _, _, _, _, _, _, _, _, _, rfl, _⟩ := h; rfl) | (obtain ⟨_, _, _, _, _, _, _, _, _, _, _, _, _, _, _, _, _, _, _, _, _, _, _, rfl, _⟩ := h; rfl)) (fun cdv A outer s H vs Q E hr tk pz h => ?_)
  have hu := hr.units
  have hrH := L2H.roomH_of hr
  obtain ⟨n, g, rfl, h1, h2⟩ := h
  refine ⟨_, (pss_one (ps_if (pt_not (pt_chainA op_le op_le pe_int (pv 1) (pv 0))) (pss_one (L2N.ps_raise rfl tk (Lk.pmk_own T.x_BadGap (List.cons_ne_nil _ _) hr T.c_BadGap (by exact (pa_cons (pv 1) pa_nil)) rfl))) pss_nil)), ?_⟩
  show (_ : Ends → L2.St → Hp → Prop) _ [some _, some _] _
  try dsimp only [L2H.cxH, cxOf]
  walk_at "w"
  refine w_ite (fun c1 => ?_) (fun c1 => ?_)
  · walk_at "w"
    refine w_iteN (fun c2 => ?_) (fun c2 => ?_)
    · walk_at "w"
      refine ⟨rfl, fun d hd => h1 (fun z => c2 z.2) d _ hd upd_same (Kp.refl.new hd)⟩
    · walk_at "w"
      exact h2 c1 c2
  · walk_at "w"
    refine ⟨rfl, fun d hd => h1 (fun z => c1 z.1) d _ hd upd_same (Kp.refl.new hd)⟩
/-! ### a Links object -/
/-- the object at x, its three lists at l, r, f -/
def Lnk (a : AD) (H : Hp) (x l r f : Addr) (n : Int) (L R : List Int) (F : List Bool) : Prop :=
  (∃ dx, H x = some (.ins a.Links dx [("size", .int n), ("_lefts", .ref l), ("_rights", .ref r), ("_flags", .ref f)])) ∧ H l = some (.lst (L.map V.int)) ∧ H r = some (.lst (R.map V.int)) ∧ H f = some (.lst (F.map V.bl)) ∧ l ≠ r ∧ l ≠ f ∧ r ≠ f
theorem Lnk.kp {a : AD} {ms : List Addr} {H H' : Hp} {x l r f : Addr} {n : Int} {L R : List Int} {F : List Bool} (h : Lnk a H x l r f n L R F) (k : Kp ms H H') (hx : x ∉ ms) (hl : l ∉ ms) (hr : r ∉ ms) (hf : f ∉ ms) : Lnk a H' x l r f n L R F := by
  obtain ⟨⟨dx, h1⟩, h2, h3, h4, h5⟩ := h
  exact ⟨⟨dx, k.at h1 hx⟩, k.at h2 hl, k.at h3 hr, k.at h4 hf, h5⟩
theorem Lnk.kp0 {a : AD} {H H' : Hp} {x l r f : Addr} {n : Int} {L R : List Int} {F : List Bool} (h : Lnk a H x l r f n L R F) (k : Kp [] H H') : Lnk a H' x l r f n L R F := h.kp k List.not_mem_nil List.not_mem_nil List.not_mem_nil List.not_mem_nil
def sp_Links_left (a : AD) : Sp := fun vs H Q E => ∃ (x l r f : Addr) (n v : Int) (L R : List Int) (F : List Bool), vs = [.ref x, .int v] ∧ Lnk a H x l r f n L R F ∧ L.length = (n + 2).toNat ∧ (¬(1 ≤ v ∧ v ≤ n + 1) → xBadNode a (.int v) E H) ∧ (1 ≤ v → v ≤ n + 1 → Q (.int (L.getD v.toNat default)) H)
theorem sc_Links_left : FnScope ["self", "node"] ["self", "node"] (defScope s_Links_left) := ⟨rfl, rfl, rfl, by decide +kernel, rfl, by decide +kernel, by decide +kernel⟩
theorem ok_Links_left {P : Program} {w : World} {K : PySem.W.Frag} {mg : Str → Option Value} {base : Heap} {a : AD} (T : Txt P K mg a) : FnA P w K mg base 2 a.f_Links_left ["self", "node"] (sp_Links_left a) := by
  obtain ⟨fd, F, b⟩ := T.F_Links_left
  refine FnA.of F sc_Links_left b (fun vs H Q E h => by first | (obtain ⟨rfl, _⟩ := h; rfl) | (obtain ⟨_, rfl, _⟩ := h; rfl) | (obtain ⟨_, _, rfl, _⟩ := h; rfl) | (obtain ⟨_, _, _, rfl, _⟩ := h; rfl) | (obtain ⟨_, _, _, _, rfl, _⟩ := h; rfl) | (obtain ⟨_, _, _, _, _, rfl, _⟩ := h; rfl) | (obtain ⟨_, _, _, _, _, _, rfl, _⟩ := h; rfl) | (obtain ⟨_, _, _, _, _, _, _, rfl, _⟩ := h; rfl) | (obtain ⟨_, _, _, _, _, _, _, _, rfl, _⟩ := h; rfl) | (obtain ⟨_, _, _, _, _, _, _, _, _, rfl, _⟩ := h; rfl) | (obtain ⟨_, _, _, _, _, _, _, _, _, _, rfl, _⟩ := h; rfl) | (obtain ⟨_, _, _, _, _, _, _, _, _, _, _, rfl, _⟩ := h; rfl) | (obtain ⟨_, _, _, _, _, _, _, _, _, _, _, _, rfl, _⟩ := h; rfl) | (obtain ⟨_, _, _, _, _, _, _, _, _, _, _, _, _, rfl, _⟩ := h; rfl) | (obtain ⟨_, _, _, _, _, _, _, _, _, _, _, _, _, _, rfl, _⟩ := h; rfl) | (obtain ⟨_, _, _, _, _, _, _, _, _, _, _, _, _, _, _, rfl, _⟩ := h; rfl) | (obtain ⟨_, _, _, _, _, _, _, _, _, _, _, _, _, _, _, _, rfl, _⟩ := h; rfl) | (obtain ⟨_, _, _, _, _, _, _, _, _, _, _, _, _, _, _, _, _, rfl, _⟩ := h; rfl) | (obtain ⟨_, _, _, _, _, _, _, _, _, _, _, _, _, _, _, _, _, _, rfl, _⟩ := h; rfl) | (obtain ⟨_, _, _, _, _, _, _, _, _, _, _, _, _, _, _, _, _, _, _, rfl, _⟩ := h; rfl) | (obtain ⟨_, _, _, _, _, _, _, _, _, _, _, _, _, _, _, _, _, _, _, _, rfl, _⟩ := h; rfl) | (obtain ⟨_, _, _, _, _, _, _, _, _, _, _, _, _, _, _, _, _, _, _, _, _, rfl, _⟩ := h; rfl) | (obtain ⟨_, _, _, _, _, _, _, _, _, _, _, _, _, _, _, _, _, _, _, _, _, _, rfl, _⟩ := h; rfl) | (obtain ⟨_, _, _, _, _, _, _, _, _, _, _, _, _, _, _, _, _, _, _, _, _, _, _, rfl, _⟩ := h; rfl)) (fun cdv A outer s H vs Q E hr tk pz h => ?_)
  have hu := hr.units
  have hrH := L2H.roomH_of hr
  obtain ⟨x, l, r, f, n, v, L, R, F, rfl, ⟨⟨dx, hx⟩, hl, hr', hf, _⟩, hL, h1, h2⟩ := h
  refine ⟨_, (pss_cons (ps_if (pt_not (pt_chainA op_le op_le pe_int (pv 1) (pe_op o_add (pe_fld (pv 0) rfl) pe_int))) (pss_one (L2N.ps_raise rfl tk (Lk.pmk_own T.x_BadNode (List.cons_ne_nil _ _) hr T.c_BadNode (by exact (pa_cons (pv 1) pa_nil)) rfl))) pss_nil)
      (pss_one (ps_ret (pe_ix ix_seq (pe_fld (pv 0) rfl) (pv 1) (fun _ _ => rfl))))), ?_⟩
  show (_ : Ends → L2.St → Hp → Prop) _ [some _, some _] _
  try dsimp only [L2H.cxH, cxOf]
  walk_at "w"
  refine w_ite (fun c1 => ?_) (fun c1 => ?_)
  · walk_at "w"
    refine w_iteN (fun c2 => ?_) (fun c2 => ?_)
    · walk_at "w"
      refine ⟨rfl, fun d hd => h1 (fun z => c2 z.2) d _ hd upd_same (Kp.refl.new hd)⟩
    · walk_at "w"
      exact h2 c1 c2
  · walk_at "w"
    refine ⟨rfl, fun d hd => h1 (fun z => c1 z.1) d _ hd upd_same (Kp.refl.new hd)⟩
def sp_Links_right (a : AD) : Sp := fun vs H Q E => ∃ (x l r f : Addr) (n v : Int) (L R : List Int) (F : List Bool), vs = [.ref x, .int v] ∧ Lnk a H x l r f n L R F ∧ R.length = (n + 2).toNat ∧ (¬(0 ≤ v ∧ v ≤ n) → xBadNode a (.int v) E H) ∧ (0 ≤ v → v ≤ n → Q (.int (R.getD v.toNat default)) H)
theorem sc_Links_right : FnScope ["self", "node"] ["self", "node"] (defScope s_Links_right) := ⟨rfl, rfl, rfl, by decide +kernel, rfl, by decide +kernel, by decide +kernel⟩
theorem ok_Links_right {P : Program} {w : World} {K : PySem.W.Frag} {mg : Str → Option Value} {base : Heap} {a : AD} (T : Txt P K mg a) : FnA P w K mg base 2 a.f_Links_right ["self", "node"] (sp_Links_right a) := by
  obtain ⟨fd, F, b⟩ := T.F_Links_right
  refine FnA.of F sc_Links_right b (fun vs H Q E h => by first | (obtain ⟨rfl, _⟩ := h; rfl) | (obtain ⟨_, rfl, _⟩ := h; rfl) | (obtain ⟨_, _, rfl, _⟩ := h; rfl) | (obtain ⟨_, _, _, rfl, _⟩ := h; rfl) | (obtain ⟨_, _, _, _, rfl, _⟩ := h; rfl) | (obtain ⟨_, _, _, _, _, rfl, _⟩ := h; rfl) | (obtain ⟨_, _, _, _, _, _, rfl, _⟩ := h; rfl) | (obtain ⟨_, _, _, _, _, _, _, rfl, _⟩ := h; rfl) | (obtain ⟨_, _, _, _, _, _, _, _, rfl, _⟩ := h; rfl) | (obtain ⟨_, _, _, _, _, _, _, _, _, rfl, _⟩ := h; rfl) | (obtain ⟨_, _, _, _, _, _, _, _, _, _, rfl, _⟩ := h; rfl) | (obtain ⟨_, _, _, _, _, _, _, _, _, _, _, rfl, _⟩ := h; rfl) | (obtain ⟨_, _, _, _, _, _, _, _, _, _, _, _, rfl, _⟩ := h; rfl) | (obtain ⟨_, _, _, _, _, _, _, _, _, _, _, _, _, rfl, _⟩ := h; rfl) | (obtain ⟨_, _, _, _, _, _, _, _, _, _, _, _, _, _, rfl, _⟩ := h; rfl) | (obtain ⟨_, _, _, _, _, _, _, _, _, _, _, _, _, _, _, rfl, _⟩ := h; rfl) | (obtain ⟨_, _, _, _, _, _, _, _, _, _, _, _, _, _, _, _, rfl, _⟩ := h; rfl) | (obtain ⟨_, _, _, _, _, _, _, _, _, _, _, _, _, _, _, _, _, rfl, _⟩ := h; rfl) | (obtain ⟨_, _, _, _, _, _, _, _, _, _, _, _, _, _, _, _, _, _, rfl, _⟩ := h; rfl) | (obtain ⟨_, _, _, _, _, _, _, _, _, _, _, _, _, _, _, _, _, _, _, rfl, _⟩ := h; rfl) | (obtain ⟨_, _, _, _, _, _, _, _, _, _, _, _, _, _, _, _, _, _, _, _, rfl, _⟩ := h; rfl) | (obtain ⟨_, _, _, _, _, _, _, _, _, _, _, _, _, _, _, _, _, _, _, _, _, rfl, _⟩ := h; rfl) | (obtain ⟨_, _, _, _, _, _, _, _, _, _, _, _, _, _, _, _, _, _, _, _, _, _, rfl, _⟩ := h; rfl) | (obtain ⟨_, _, _, _, _, _, _, _, _, _, _, _, _, _, _, _, _, _, _, _, _, _, _, rfl, _⟩ := h; rfl)) (fun cdv A outer s H vs Q E hr tk pz h => ?_)
  have hu := hr.units
  have hrH := L2H.roomH_of hr
  obtain ⟨x, l, r, f, n, v, L, R, F, rfl, ⟨⟨dx, hx⟩, hl, hr', hf, _⟩, hL, h1, h2⟩ := h
  refine ⟨_, (pss_cons (ps_if (pt_not (pt_chainA op_le op_le pe_int (pv 1) (pe_fld (pv 0) rfl))) (pss_one (L2N.ps_raise rfl tk (Lk.pmk_own T.x_BadNode (List.cons_ne_nil _ _) hr T.c_BadNode (by exact (pa_cons (pv 1) pa_nil)) rfl))) pss_nil)
      (pss_one (ps_ret (pe_ix ix_seq (pe_fld (pv 0) rfl) (pv 1) (fun _ _ => rfl))))), ?_⟩
  show (_ : Ends → L2.St → Hp → Prop) _ [some _, some _] _
  try dsimp only [L2H.cxH, cxOf]
  walk_at "w"
  refine w_ite (fun c1 => ?_) (fun c1 => ?_)
  · walk_at "w"
    refine w_iteN (fun c2 => ?_) (fun c2 => ?_)
    · walk_at "w"
      refine ⟨rfl, fun d hd => h1 (fun z => c2 z.2) d _ hd upd_same (Kp.refl.new hd)⟩
    · walk_at "w"
      exact h2 c1 c2
  · walk_at "w"
    refine ⟨rfl, fun d hd => h1 (fun z => c1 z.1) d _ hd upd_same (Kp.refl.new hd)⟩
/-- the object after an operation on v: low and high its neighbours -/
def apR (L R : List Int) (o : Int) : List Int := R.set (L.getD o.natAbs default).toNat (if o < 0 then R.getD o.natAbs default else (o.natAbs : Int))
def apL (L R : List Int) (o : Int) : List Int := L.set (R.getD o.natAbs default).toNat (if o < 0 then L.getD o.natAbs default else (o.natAbs : Int))
def apF (F : List Bool) (o : Int) : List Bool := F.set o.natAbs (decide (o < 0))
def sp_Links_apply_at (a : AD) : Sp := fun vs H Q E => ∃ (x l r f : Addr) (n o i : Int) (L R : List Int) (F : List Bool), vs = [.ref x, .int o, .int i] ∧ Lnk a H x l r f n L R F ∧ L.length = (n + 2).toNat ∧ R.length = (n + 2).toNat ∧ F.length = (n + 2).toNat ∧
  (¬IsOp n o → xBadOperation a (.int o) (.int i) E H) ∧ (IsOp n o → F.getD o.natAbs default = decide (o < 0) → xIllegal a (.int o) (.int i) E H) ∧
  (IsOp n o → F.getD o.natAbs default ≠ decide (o < 0) → 0 ≤ L.getD o.natAbs default ∧ L.getD o.natAbs default < n + 2 ∧ 0 ≤ R.getD o.natAbs default ∧ R.getD o.natAbs default < n + 2 ∧ ∀ H', Lnk a H' x l r f n (apL L R o) (apR L R o) (apF F o) → Kp [l, r, f] H H' → Q .non H')
theorem sc_Links_apply_at : FnScope ["self", "operation", "index", "node", "is_unlink", "low", "high"] ["self", "operation", "index"] (defScope s_Links_apply_at) := ⟨rfl, rfl, rfl, by decide +kernel, rfl, by decide +kernel, by decide +kernel⟩
theorem ok_Links_apply_at {P : Program} {w : World} {K : PySem.W.Frag} {mg : Str → Option Value} {base : Heap} {a : AD} (T : Txt P K mg a) (G_check_operation : FnA P w K mg base 2 a.f_check_operation ["size", "operation", "index"] (sp_check_operation a)) : FnA P w K mg base 3 a.f_Links_apply_at ["self", "operation", "index"] (sp_Links_apply_at a) := by
  obtain ⟨fd, F, b⟩ := T.F_Links_apply_at
  refine FnA.of F sc_Links_apply_at b (fun vs H Q E h => by first | (obtain ⟨rfl, _⟩ := h; rfl) | (obtain ⟨_, rfl, _⟩ := h; rfl) | (obtain ⟨_, _, rfl, _⟩ := h; rfl) | (obtain ⟨_, _, _, rfl, _⟩ := h; rfl) | (obtain ⟨_, _, _, _, rfl, _⟩ := h; rfl) | (obtain ⟨_, _, _, _, _, rfl, _⟩ := h; rfl) | (obtain ⟨_, _, _, _, _, _, rfl, _⟩ := h; rfl) | (obtain ⟨_, _, _, _, _, _, _, rfl, _⟩ := h; rfl) | (obtain ⟨_, _, _, _, _, _, _, _, rfl, _⟩ := h; rfl) | (obtain ⟨_, _, _, _, _, _, _, _, _, rfl, _⟩ := h; rfl) | (obtain ⟨_, _, _, _, _, _, _, _, _, _, rfl, _⟩ := h; rfl) | (obtain ⟨_, _, _, _, _, _, _, _, _, _, _, rfl, _⟩ := h; rfl) | (obtain ⟨_, _, _, _, _, _, _, _, _, _, _, _, rfl, _⟩ := h; rfl) | (obtain ⟨_, _, _, _, _, _, _, _, _, _, _, _, _, rfl, _⟩ := h; rfl) | (obtain ⟨_, _, _, _, _, _, _, _, _, _, _, _, _, _, rfl, _⟩ := h; rfl) | (obtain ⟨_, _, _, _, _, _, _, _, _, _, _, _, _, _, _, rfl, _⟩ := h; rfl) | (obtain ⟨_, _, _, _, _, _, _, _, _, _, _, _, _, _, _, _, rfl, _⟩ := h; rfl) | (obtain ⟨_, _, _, _, _, _, _, _, _, _, _, _, _, _, _, _, _, rfl, _⟩ := h; rfl) | (obtain ⟨_, _, _, _, _, _, _, _, _, _, _, _, _, _, _, _, _, _, rfl, _⟩ := h; rfl) | (obtain ⟨_, _, _, _, _, _, _, _, _, _, _, _, _, _, _, _, _, _, _, rfl, _⟩ := h; rfl) | (obtain ⟨_, _, _, _, _, _, _, _, _, _, _, _, _, _, _, _, _, _, _, _, rfl, _⟩ := h; rfl) | (obtain ⟨_, _, _, _, _, _, _, _, _, _, _, _, _, _, _, _, _, _, _, _, _, rfl, _⟩ := h; rfl) | (obtain ⟨_, _, _, _, _, _, _, _, _, _, _, _, _, _, _, _, _, _, _, _, _, _, rfl, _⟩ := h; rfl) | (obtain ⟨_, _, _, _, _, _, _, _, _, _, _, _, _, _, _, _, _, _, _, _, _, _, _, rfl, _⟩ := h; rfl)) (fun cdv A outer s H vs Q E hr tk pz h => ?_)
  have hu := hr.units
  have hrH := L2H.roomH_of hr
  obtain ⟨x, l, r, f, n, o, i, L, R, F, rfl, ⟨⟨dx, hx⟩, hl, hr', hf, hlr, hlf, hrf⟩, hL, hR, hF, h1, h2, h3⟩ := h
  refine ⟨_, (pss_cons (ps_expr (pe_callA G_check_operation (Room.mono hr (by decide)) T.n_check_operation tk (pa_cons (pe_fld (pv 0) rfl) (pa_cons (pv 1) (pa_cons (pv 2) pa_nil)))))
      (pss_cons (ps_set (i := 3) sc_Links_apply_at.nd rfl (Or.inl rfl) (pe_callB (b_abs) rfl T.b_abs (by decide +kernel) (pa_cons (pv 1) pa_nil)))
      (pss_cons (ps_set (i := 4) sc_Links_apply_at.nd rfl (Or.inl rfl) (pe_cmpR op_lt (pv 1) pe_int (nomark _)))
      (pss_cons (ps_if (pt_cmpA (o_eq hu) (pe_ix ix_seq (pe_fld (pv 0) rfl) (pv 3) (fun _ _ => rfl)) (pv 4) (nomark _)) (pss_one (L2N.ps_raise rfl tk (Lk.pmk_own T.x_Illegal (List.cons_ne_nil _ _) hr T.c_Illegal (by exact (pa_cons (pv 1) (pa_cons (pv 2) pa_nil))) rfl))) pss_nil)
      (pss_cons (ps_set (i := 5) sc_Links_apply_at.nd rfl (Or.inl rfl) (pe_ix ix_seq (pe_fld (pv 0) rfl) (pv 3) (fun _ _ => rfl)))
      (pss_cons (ps_set (i := 6) sc_Links_apply_at.nd rfl (Or.inl rfl) (pe_ix ix_seq (pe_fld (pv 0) rfl) (pv 3) (fun _ _ => rfl)))
      (pss_cons (ps_asg (pe_ifExp (pt_tru (pv 4)) (pv 6) (pv 3)) (pg_sub (pe_fld (pv 0) rfl) (pv 5) set_list))
      (pss_cons (ps_asg (pe_ifExp (pt_tru (pv 4)) (pv 5) (pv 3)) (pg_sub (pe_fld (pv 0) rfl) (pv 6) set_list))
      (pss_one (ps_asg (pv 4) (pg_sub (pe_fld (pv 0) rfl) (pv 3) set_list))))))))))), ?_⟩
  show (_ : Ends → L2.St → Hp → Prop) _ [some _, some _, some _, none, none, none, none] _
  try dsimp only [L2H.cxH, cxOf]
  walk_at "w"
  refine ⟨n, o, i, rfl, h1, fun hop => ?_⟩
  have hop2 := hop.2
  walk_at "w"
  refine w_ite (fun c1 => ?_) (fun c1 => ?_)
  · walk_at "w"
    exact ⟨rfl, fun d hd => h2 hop c1 d _ hd upd_same (Kp.refl.new hd)⟩
  · obtain ⟨b1, b2, b3, b4, k⟩ := h3 hop c1
    have n1 : x ≠ l := ne_of hx hl (by intro z; cases z)
    have n2 : x ≠ r := ne_of hx hr' (by intro z; cases z)
    have n3 : x ≠ f := ne_of hx hf (by intro z; cases z)
    walk_at "w"
    simp only [Int.toNat_natCast]
    unfold apL apR apF at k
    refine w_ite (fun c2 => ?_) (fun c2 => ?_)
    · rw [if_pos c2, if_pos c2] at k
      walk_at "w"
      exact k _ ⟨⟨dx, by walk_at "hp"⟩, by walk_at "hp", by walk_at "hp", upd_same, hlr, hlf, hrf⟩ (((Kp.refl.mut (by simp)).mut (by simp)).mut (by simp))
    · rw [if_neg c2, if_neg c2] at k
      walk_at "w"
      exact k _ ⟨⟨dx, by walk_at "hp"⟩, by walk_at "hp", by walk_at "hp", upd_same, hlr, hlf, hrf⟩ (((Kp.refl.mut (by simp)).mut (by simp)).mut (by simp))
/-- an operation, at place i -/
def apSp (a : AD) (x l r f : Addr) (n o i : Int) (L R : List Int) (F : List Bool) (H : Hp) (Q : VK) (E : XK) : Prop := Lnk a H x l r f n L R F ∧ L.length = (n + 2).toNat ∧ R.length = (n + 2).toNat ∧ F.length = (n + 2).toNat ∧
  (¬IsOp n o → xBadOperation a (.int o) (.int i) E H) ∧ (IsOp n o → F.getD o.natAbs default = decide (o < 0) → xIllegal a (.int o) (.int i) E H) ∧
  (IsOp n o → F.getD o.natAbs default ≠ decide (o < 0) → 0 ≤ L.getD o.natAbs default ∧ L.getD o.natAbs default < n + 2 ∧ 0 ≤ R.getD o.natAbs default ∧ R.getD o.natAbs default < n + 2 ∧ ∀ H', Lnk a H' x l r f n (apL L R o) (apR L R o) (apF F o) → Kp [l, r, f] H H' → Q .non H')
def sp_Links_apply (a : AD) : Sp := fun vs H Q E => ∃ (x l r f : Addr) (n o : Int) (L R : List Int) (F : List Bool), vs = [.ref x, .int o] ∧ apSp a x l r f n o 0 L R F H Q E
theorem sc_Links_apply : FnScope ["self", "operation"] ["self", "operation"] (defScope s_Links_apply) := ⟨rfl, rfl, rfl, by decide +kernel, rfl, by decide +kernel, by decide +kernel⟩
theorem ok_Links_apply {P : Program} {w : World} {K : PySem.W.Frag} {mg : Str → Option Value} {base : Heap} {a : AD} (T : Txt P K mg a) (G_Links_apply_at : FnA P w K mg base 3 a.f_Links_apply_at ["self", "operation", "index"] (sp_Links_apply_at a)) : FnA P w K mg base 4 a.f_Links_apply ["self", "operation"] (sp_Links_apply a) := by
  obtain ⟨fd, F, b⟩ := T.F_Links_apply
  refine FnA.of F sc_Links_apply b (fun vs H Q E h => by first | (obtain ⟨rfl, _⟩ := h; rfl) | (obtain ⟨_, rfl, _⟩ := h; rfl) | (obtain ⟨_, _, rfl, _⟩ := h; rfl) | (obtain ⟨_, _, _, rfl, _⟩ := h; rfl) | (obtain ⟨_, _, _, _, rfl, _⟩ := h; rfl) | (obtain ⟨_, _, _, _, _, rfl, _⟩ := h; rfl) | (obtain ⟨_, _, _, _, _, _, rfl, _⟩ := h; rfl) | (obtain ⟨_, _, _, _, _, _, _, rfl, _⟩ := h; rfl) | (obtain ⟨_, _, _, _, _, _, _, _, rfl, _⟩ := h; rfl) | (obtain ⟨_, _, _, _, _, _, _, _, _, rfl, _⟩ := h; rfl) | (obtain ⟨_, _, _, _, _, _, _, _, _, _, rfl, _⟩ := h; rfl) | (obtain ⟨_, _, _, _, _, _, _, _, _, _, _, rfl, _⟩ := h; rfl) | (obtain ⟨_, _, _, _, _, _, _, _, _, _, _, _, rfl, _⟩ := h; rfl) | (obtain ⟨_, _, _, _, _, _, _, _, _, _, _, _, _, rfl, _⟩ := h; rfl) | (obtain ⟨_, _, _, _, _, _, _, _, _, _, _, _, _, _, rfl, _⟩ := h; rfl) | (obtain ⟨_, _, _, _, _, _, _, _, _, _, _, _, _, _, _, rfl, _⟩ := h; rfl) | (obtain ⟨_, _, _, _, _, _, _, _, _, _, _, _, _, _, _, _, rfl, _⟩ := h; rfl) | (obtain ⟨_, _, _, _, _, _, _, _, _, _, _, _, _, _, _, _, _, rfl, _⟩ := h; rfl) | (obtain ⟨_, _, _, _, _, _, _, _, _, _, _, _, _, _, _, _, _, _, rfl, _⟩ := h; rfl) | (obtain ⟨_, _, _, _, _, _, _, _, _, _, _, _, _, _, _, _, _, _, _, rfl, _⟩ := h; rfl) | (obtain ⟨_, _, _, _, _, _, _, _, _, _, _, _, _, _, _, _, _, _, _, _, rfl, _⟩ := h; rfl) | (obtain ⟨_, _, _, _, _, _, _, _, _, _, _, _, _, _, _, _, _, _, _, _, _, rfl, _⟩ := h; rfl) | (obtain ⟨_, _, _, _, _, _, _, _, _, _, _, _, _, _, _, _, _, _, _, _, _, _, rfl, _⟩ := h; rfl) | (obtain ⟨_, _, _, _, _, _, _, _, _, _, _, _, _, _, _, _, _, _, _, _, _, _, _, rfl, _⟩ := h; rfl)) (fun cdv A outer s H vs Q E hr tk pz h => ?_)
  have hu := hr.units
  have hrH := L2H.roomH_of hr
  obtain ⟨x, l, r, f, n, o, L, R, F, rfl, h⟩ := h
  have hx := h.1.1.choose_spec
  refine ⟨_, (pss_one (ps_expr (pe_methS (pl := _) G_Links_apply_at (Room.mono hr (by decide)) T.cl_Links T.me_Links_apply_at tk (pv 0) (pa_cons (pv 1) (pa_cons pe_int pa_nil))))), ?_⟩
  show (_ : Ends → L2.St → Hp → Prop) _ [some _, some _] _
  try dsimp only [L2H.cxH, cxOf]
  walk_at "w"
  refine ⟨x, l, r, f, n, o, 0, L, R, F, rfl, h.1, h.2.1, h.2.2.1, h.2.2.2.1, h.2.2.2.2.1, h.2.2.2.2.2.1, fun q1 q2 => ?_⟩
  obtain ⟨b1, b2, b3, b4, k⟩ := h.2.2.2.2.2.2 q1 q2
  refine ⟨b1, b2, b3, b4, fun H' j1 j2 => ?_⟩
  walk_at "w"
  exact k H' j1 j2
/-- a new object -/
def sp_Links___init__ (a : AD) : Sp := fun vs H Q E => ∃ (x dx : Addr) (n : Int), vs = [.ref x, .int n] ∧ H x = some (.ins a.Links dx []) ∧ (¬(0 ≤ n ∧ n ≤ 60) → xBadSize a (.int n) E H) ∧
  (0 ≤ n → n ≤ 60 → ∀ (l r f : Addr) (H' : Hp), H l = none → H r = none → H f = none → Lnk a H' x l r f n (rgI (-1) (n + 1)) (rgI 1 (n + 3)) (List.replicate (n + 2).toNat false) → Kp [x] H H' → Q .non H')
theorem sc_Links___init__ : FnScope ["self", "size"] ["self", "size"] (defScope s_Links___init__) := ⟨rfl, rfl, rfl, by decide +kernel, rfl, by decide +kernel, by decide +kernel⟩
theorem ok_Links___init__ {P : Program} {w : World} {K : PySem.W.Frag} {mg : Str → Option Value} {base : Heap} {a : AD} (T : Txt P K mg a) (G_check_size : FnA P w K mg base 2 a.f_check_size ["size"] (sp_check_size a)) : FnA P w K mg base 3 a.f_Links___init__ ["self", "size"] (sp_Links___init__ a) := by
  obtain ⟨fd, F, b⟩ := T.F_Links___init__
  refine FnA.of F sc_Links___init__ b (fun vs H Q E h => by first | (obtain ⟨rfl, _⟩ := h; rfl) | (obtain ⟨_, rfl, _⟩ := h; rfl) | (obtain ⟨_, _, rfl, _⟩ := h; rfl) | (obtain ⟨_, _, _, rfl, _⟩ := h; rfl) | (obtain ⟨_, _, _, _, rfl, _⟩ := h; rfl) | (obtain ⟨_, _, _, _, _, rfl, _⟩ := h; rfl) | (obtain ⟨_, _, _, _, _, _, rfl, _⟩ := h; rfl) | (obtain ⟨_, _, _, _, _, _, _, rfl, _⟩ := h; rfl) | (obtain ⟨_, _, _, _, _, _, _, _, rfl, _⟩ := h; rfl) | (obtain ⟨_, _, _, _, _, _, _, _, _, rfl, _⟩ := h; rfl) | (obtain ⟨_, _, _, _, _, _, _, _, _, _, rfl, _⟩ := h; rfl) | (obtain ⟨_, _, _, _, _, _, _, _, _, _, _, rfl, _⟩ := h; rfl) | (obtain ⟨_, _, _, _, _, _, _, _, _, _, _, _, rfl, _⟩ := h; rfl) | (obtain ⟨_, _, _, _, _, _, _, _, _, _, _, _, _, rfl, _⟩ := h; rfl) | (obtain ⟨_, _, _, _, _, _, _, _, _, _, _, _, _, _, rfl, _⟩ := h; rfl) | (obtain ⟨_, _, _, _, _, _, _, _, _, _, _, _, _, _, _, rfl, _⟩ := h; rfl) | (obtain ⟨_, _, _, _, _, _, _, _, _, _, _, _, _, _, _, _, rfl, _⟩ := h; rfl) | (obtain ⟨_, _, _, _, _, _, _, _, _, _, _, _, _, _, _, _, _, rfl, _⟩ := h; rfl) | (obtain ⟨_, _, _, _, _, _, _, _, _, _, _, _, _, _, _, _, _, _, rfl, _⟩ := h; rfl) | (obtain ⟨_, _, _, _, _, _, _, _, _, _, _, _, _, _, _, _, _, _, _, rfl, _⟩ := h; rfl) | (obtain ⟨_, _, _, _, _, _, _, _, _, _, _, _, _, _, _, _, _, _, _, _, rfl, _⟩ := h; rfl) | (obtain ⟨_, _, _, _, _, _, _, _, _, _, _, _, _, _, _, _, _, _, _, _, _, rfl, _⟩ := h; rfl) | (obtain ⟨_, _, _, _, _, _, _, _, _, _, _, _, _, _, _, _, _, _, _, _, _, _, rfl, _⟩ := h; rfl) | (obtain ⟨_, _, _, _, _, _, _, _, _, _, _, _, _, _, _, _, _, _, _, _, _, _, _, rfl, _⟩ := h; rfl)) (fun cdv A outer s H vs Q E hr tk pz h => ?_)
  have hu := hr.units
  have hrH := L2H.roomH_of hr
  obtain ⟨x, dx, n, rfl, hx, h1, h2⟩ := h
  refine ⟨_, (pss_cons (ps_expr (pe_callA G_check_size (Room.mono hr (by decide)) T.n_check_size tk (pa_cons (pv 1) pa_nil)))
      (pss_cons (ps_fld (pv 0) (pv 1) rfl)
      (pss_cons (ps_fld (pv 0) (pe_listRg rfl rfl T.b_list (prg_2 rfl T.b_range (pe_un un_neg pe_int) (pe_op o_add (pv 1) pe_int))) rfl)
      (pss_cons (ps_fld (pv 0) (pe_listRg rfl rfl T.b_list (prg_2 rfl T.b_range pe_int (pe_op o_add (pv 1) pe_int))) rfl)
      (pss_one (ps_fld (pv 0) (pe_op o_mul (pe_lst (pa_cons pe_bl pa_nil)) (pe_op o_add (pv 1) pe_int)) rfl)))))), ?_⟩
  show (_ : Ends → L2.St → Hp → Prop) _ [some _, some _] _
  try dsimp only [L2H.cxH, cxOf]
  walk_at "w"
  refine ⟨n, rfl, h1, fun n0 n1 => ?_⟩
  walk_at "w"
  intro l hl
  have hxl : x ≠ l := ne_of_none (by walk_at "hp") hl
  have l0 : H l = none := by rw [upd_ne (Ne.symm hxl)] at hl; exact hl
  walk_at "w"
  intro r hr
  have hxr : x ≠ r := ne_of_none upd_same hr
  have hlr : l ≠ r := ne_of_none (by walk_at "hp") hr
  have r0 : H r = none := by rw [upd_ne (Ne.symm hxr), upd_ne (Ne.symm hlr), upd_ne (Ne.symm hxr)] at hr; exact hr
  walk_at "w"
  intro f0 hf0
  walk_at "w"
  intro f hf
  have hxf : x ≠ f := ne_of_none (by walk_at "hp") hf
  have hlf : l ≠ f := ne_of_none (by walk_at "hp") hf
  have hrf : r ≠ f := ne_of_none (by walk_at "hp") hf
  have hff : f0 ≠ f := ne_of_none (by walk_at "hp") hf
  have f00 : H f = none := by rw [upd_ne (Ne.symm hff), upd_ne (Ne.symm hxf), upd_ne (Ne.symm hrf), upd_ne (Ne.symm hxf), upd_ne (Ne.symm hlf), upd_ne (Ne.symm hxf)] at hf; exact hf
  walk_at "w"
  refine h2 n0 n1 l r f _ l0 r0 f00 ⟨⟨dx, upd_same⟩, by walk_at "hp", by walk_at "hp", by walk_at "hp", hlr, hlf, hrf⟩ ?_
  have f01 : H f0 = none := by walk_at "fr"
  exact ((((((((Kp.refl.mut (by simp)).own l0).mut (by simp)).own r0).mut (by simp)).own f01).own f00).mut (by simp))
/-- the new object's promise -/
def newSp (a : AD) (n : Int) (L R : List Int) (F : List Bool) (H : Hp) (Q : VK) : Prop := ∀ (x l r f : Addr) (H' : Hp), H x = none → H l = none → H r = none → H f = none → Lnk a H' x l r f n L R F → Kp [] H H' → Q (.ref x) H'
def sp_Links_built (a : AD) : Sp := fun vs H Q E => ∃ (n : Int) (pl pr pf : Addr) (L R : List Int) (F : List Bool), vs = [.int n, .ref pl, .ref pr, .ref pf] ∧ 0 ≤ n ∧ n ≤ 60 ∧ H pl = some (.lst (L.map V.int)) ∧ H pr = some (.lst (R.map V.int)) ∧ H pf = some (.lst (F.map V.bl)) ∧ newSp a n L R F H Q
def sp_Links_copy (a : AD) : Sp := fun vs H Q E => ∃ (x l r f : Addr) (n : Int) (L R : List Int) (F : List Bool), vs = [.ref x] ∧ Lnk a H x l r f n L R F ∧ 0 ≤ n ∧ n ≤ 60 ∧ newSp a n L R F H Q
/-! ### reading a dump -/
def sp_is_number (a : AD) : Sp := fun vs H Q E => ∃ z : Str, vs = [.str z] ∧ z.length ≤ 1000000 ∧ Q (.bl (isNumW z)) H
/-- a new list of the numbers, or None -/
def rdSp (H : Hp) (Q : VK) (R : List Int → Prop) : Prop := (∀ us, R us → ∀ r H', H r = none → Kp [] H H' → H' r = some (.lst (us.map V.int)) → Q (.ref r) H') ∧ ((∀ us, ¬R us) → ∀ H', Kp [] H H' → Q .non H')
def sp__numbers (a : AD) : Sp := fun vs H Q E => ∃ z : Str, vs = [.str z] ∧ z.length ≤ 1000000 ∧ rdSp H Q (fun us => numsOf z = some us)
def RightsOk (us : List Int) : Prop := us.length ≤ 61 ∧ ∀ (i : Nat) (u : Int), us[i]? = some u → (i : Int) < u ∧ u ≤ us.length
def LeftsOk (n : Int) (us : List Int) : Prop := (us.length : Int) = n + 1 ∧ ∀ (i : Nat) (u : Int), us[i]? = some u → u ≤ (i : Int)
def outsOk (n : Int) : Int → List Int → Prop
  | _, [] => True
  | last, u :: us => last < u ∧ u ≤ n ∧ outsOk n u us
def RdR (z : Str) (us : List Int) : Prop := numsOf z = some us ∧ RightsOk us
def RdL (n : Int) (z : Str) (us : List Int) : Prop := numsOf z = some us ∧ LeftsOk n us
def RdO (n : Int) (z : Str) (us : List Int) : Prop := (z = "none" ∧ us = []) ∨ (z ≠ "none" ∧ numsOf z = some us ∧ outsOk n 0 us)
def sp__read_rights (a : AD) : Sp := fun vs H Q E => ∃ z : Str, vs = [.str z] ∧ z.length ≤ 1000000 ∧ rdSp H Q (RdR z)
def sp__read_lefts (a : AD) : Sp := fun vs H Q E => ∃ (z : Str) (n : Int), vs = [.str z, .int n] ∧ z.length ≤ 1000000 ∧ rdSp H Q (RdL n z)
theorem take_snoc {α : Type} {us : List α} {i : Nat} {u : α} (h : us[i]? = some u) : us.take (i + 1) = us.take i ++ [u] := by
  rw [List.take_succ, h]; rfl
/-- outsOk from the front -/
theorem outsOk_snoc {n : Int} : ∀ {us : List Int} {last u : Int}, outsOk n last (us ++ [u]) ↔ outsOk n last us ∧ (us.getLastD last < u ∧ u ≤ n)
  | [], last, u => by simp [outsOk]
  | v :: us, last, u => by
    rw [List.cons_append]
    unfold outsOk
    rw [outsOk_snoc]
    have : (v :: us).getLastD last = us.getLastD v := by cases us <;> rfl
    rw [this]
    simp only [and_assoc]
theorem outsOk_app {n : Int} : ∀ {us vs : List Int} {last : Int}, outsOk n last (us ++ vs) → outsOk n last us
  | [], _, _, _ => trivial
  | v :: us, vs, last, h => ⟨h.1, h.2.1, outsOk_app h.2.2⟩
def sp__read_outs (a : AD) : Sp := fun vs H Q E => ∃ (z : Str) (n : Int), vs = [.str z, .int n] ∧ z.length ≤ 1000000 ∧ rdSp H Q (RdO n z)
def flagsOf (n : Int) (os : List Int) : List Bool := os.foldl (fun F v => F.set v.toNat true) (List.replicate (n + 2).toNat false)
theorem flagsOf_len (n : Int) (os : List Int) : (flagsOf n os).length = (n + 2).toNat := by
  unfold flagsOf
  suffices h : ∀ (l : List Int) (fs : List Bool), (l.foldl (fun F v => F.set v.toNat true) fs).length = fs.length by
    rw [h]; simp
  intro l
  induction l with
  | nil => intro fs; rfl
  | cons o l ih => intro fs; rw [List.foldl_cons, ih]; simp
theorem flagsOf_snoc (n : Int) (l : List Int) (o : Int) : flagsOf n (l ++ [o]) = (flagsOf n l).set o.toNat true := by
  unfold flagsOf
  rw [List.foldl_append]; rfl
theorem outsOk_mem {n : Int} : ∀ {us : List Int} {last : Int}, outsOk n last us → ∀ u ∈ us, last < u ∧ u ≤ n
  | [], _, _ => fun u hu => by cases hu
  | v :: us, last, h => fun u hu => by
    rcases List.mem_cons.mp hu with z | z
    · subst z; exact ⟨h.1, h.2.1⟩
    · have := outsOk_mem h.2.2 u z
      have := h.1
      omega
def readSp (a : AD) (ps : List Str) (H : Hp) (Q : VK) (E : XK) : Prop :=
  (∀ us ls os, RdR (ps.getD 0 default) us → 1 < ps.length → RdL ((us.length : Int) - 1) (ps.getD 1 default) ls → 2 < ps.length → RdO ((us.length : Int) - 1) (ps.getD 2 default) os → ps.length ≤ 3 →
    newSp a ((us.length : Int) - 1) (-1 :: ls) (us ++ [(us.length : Int) - 1 + 2]) (flagsOf ((us.length : Int) - 1) os) H Q) ∧
  ((∀ us, ¬RdR (ps.getD 0 default) us) → xBadDump a (.int 0) E H) ∧
  (∀ us, RdR (ps.getD 0 default) us → (1 < ps.length → ∀ ls, ¬RdL ((us.length : Int) - 1) (ps.getD 1 default) ls) → xBadDump a (.int 1) E H) ∧
  (∀ us ls, RdR (ps.getD 0 default) us → 1 < ps.length → RdL ((us.length : Int) - 1) (ps.getD 1 default) ls → (2 < ps.length → ∀ os, ¬RdO ((us.length : Int) - 1) (ps.getD 2 default) os) → xBadDump a (.int 2) E H) ∧
  (∀ us ls os, RdR (ps.getD 0 default) us → 1 < ps.length → RdL ((us.length : Int) - 1) (ps.getD 1 default) ls → 2 < ps.length → RdO ((us.length : Int) - 1) (ps.getD 2 default) os → 3 < ps.length → xBadDump a (.int 3) E H)
theorem RdR.len {z : Str} {us : List Int} (h : RdR z us) : 1 ≤ us.length ∧ us.length ≤ 61 := ⟨(numsOf_len h.1).1, h.2.1⟩
theorem RdO.ok {n : Int} {z : Str} {us : List Int} (h : RdO n z us) : outsOk n 0 us := by
  rcases h with h | h
  · rw [h.2]; trivial
  · exact h.2.2
def sp_Links_read (a : AD) : Sp := fun vs H Q E => ∃ z : Str, vs = [.str z] ∧ z.length ≤ 900000 ∧ readSp a (Txt.split z " | ") H Q E
/-! ### the text of a standing -/
def outL (n : Int) (F : List Bool) : List Int := (List.range n.toNat).filterMap fun i : Nat => if F.getD (i + 1) default = true then some (1 + (i : Int)) else none
def goneT (n : Int) (F : List Bool) : Str := if outL n F = [] then "none" else Txt.join " " ((outL n F).map strI)
def textOf (n : Int) (R L : List Int) (F : List Bool) : Str := Txt.join " " (R.map strI) ++ " | " ++ Txt.join " " ((L.drop 1).map strI) ++ " | " ++ goneT n F
/-- a standing as the law draws it -/
structure WF (n : Int) (R L : List Int) (F : List Bool) : Prop where
  n0 : 0 ≤ n
  n1 : n ≤ 60
  hR : R.length = (n + 1).toNat
  hL : L.length = (n + 2).toNat
  hF : F.length = (n + 2).toNat
  r : ∀ (i : Nat) (u : Int), R[i]? = some u → (i : Int) < u ∧ u ≤ n + 1
  l0 : L[0]? = some (-1)
  l : ∀ (i : Nat) (u : Int), 1 ≤ i → L[i]? = some u → 0 ≤ u ∧ u < (i : Int)
  f0 : F.getD 0 default = false
  f1 : F.getD (n + 1).toNat default = false
theorem outL_mem {n : Int} {F : List Bool} {u : Int} (h : u ∈ outL n F) : 1 ≤ u ∧ u ≤ n ∧ F.getD u.toNat default = true := by
  unfold outL at h
  rw [List.mem_filterMap] at h
  obtain ⟨i, hi, e⟩ := h
  rw [List.mem_range] at hi
  split at e
  · rename_i q
    cases e
    refine ⟨by omega, by omega, ?_⟩
    rw [show (1 + (i : Int)).toNat = i + 1 by omega]
    exact q
  · cases e
theorem outL_len (n : Int) (F : List Bool) : (outL n F).length ≤ n.toNat := by
  have := fm_len (fun i : Nat => if F.getD (i + 1) default = true then some (1 + (i : Int)) else none) (List.range n.toNat)
  rw [List.length_range] at this
  exact this
/-- the outs from 1 to k -/
def outK (F : List Bool) (k : Nat) : List Int := (List.range k).filterMap fun i : Nat => if F.getD (i + 1) default = true then some (1 + (i : Int)) else none
theorem outK_succ (F : List Bool) (k : Nat) : outK F (k + 1) = outK F k ++ (if F.getD (k + 1) default = true then [1 + (k : Int)] else []) := by
  unfold outK
  rw [List.range_succ, List.filterMap_append]
  congr 1
  rw [List.filterMap_cons, List.filterMap_nil]
  by_cases z : F.getD (k + 1) default = true
  · rw [if_pos z, if_pos z]
  · rw [if_neg z, if_neg z]
theorem outK_last (F : List Bool) : ∀ k : Nat, (outK F k).getLastD 0 ≤ (k : Int) ∧ 0 ≤ (outK F k).getLastD 0
  | 0 => by simp [outK]
  | k + 1 => by
    have := outK_last F k
    rw [outK_succ]
    split
    · simp; omega
    · rw [List.append_nil]; omega
theorem outK_ok {n : Int} (F : List Bool) : ∀ k : Nat, (k : Int) ≤ n → outsOk n 0 (outK F k)
  | 0, _ => trivial
  | k + 1, h => by
    have ih := outK_ok (n := n) F k (by omega)
    rw [outK_succ]
    split
    · rw [outsOk_snoc]
      have := outK_last F k
      exact ⟨ih, by omega, by omega⟩
    · rw [List.append_nil]; exact ih
theorem outL_ok {n : Int} (n0 : 0 ≤ n) (F : List Bool) : outsOk n 0 (outL n F) := outK_ok F n.toNat (by omega)
theorem getD_set_eq {α : Type} [Inhabited α] {us : List α} {i : Nat} {u : α} (h : i < us.length) : (us.set i u).getD i default = u := by
  simp [List.getD, h]
theorem getD_set_ne {α : Type} [Inhabited α] {us : List α} {i j : Nat} {u : α} (h : i ≠ j) : (us.set i u).getD j default = us.getD j default := by
  simp [List.getD, List.getElem?_set_ne h]
theorem flagsOf_outK {n : Int} (n0 : 0 ≤ n) (F : List Bool) : ∀ k : Nat, (k : Int) ≤ n → ∀ j : Nat, j < (n + 2).toNat → (flagsOf n (outK F k)).getD j default = if 1 ≤ j ∧ j ≤ k then F.getD j default else false
  | 0, _, j, hj => by
    rw [if_neg (by omega)]
    show (List.replicate (n + 2).toNat false).getD j default = false
    simp [List.getD, List.getElem?_replicate]
    split <;> rfl
  | k + 1, h, j, hj => by
    have ih := flagsOf_outK n0 F k (by omega) j hj
    have hl := flagsOf_len n (outK F k)
    rw [outK_succ]
    by_cases z : F.getD (k + 1) default = true
    · rw [if_pos z, flagsOf_snoc, show (1 + (k : Int)).toNat = k + 1 by omega]
      by_cases q : j = k + 1
      · subst q
        rw [if_pos ⟨by omega, Nat.le_refl _⟩, z]
        exact getD_set_eq (by rw [hl]; omega)
      · have e : ((flagsOf n (outK F k)).set (k + 1) true).getD j default = (flagsOf n (outK F k)).getD j default := by
          exact getD_set_ne (fun y => q y.symm)
        rw [e, ih]
        by_cases q2 : 1 ≤ j ∧ j ≤ k
        · rw [if_pos q2, if_pos ⟨q2.1, by omega⟩]
        · rw [if_neg q2, if_neg (fun y => q2 ⟨y.1, by omega⟩)]
    · rw [if_neg z, List.append_nil, ih]
      by_cases q : j = k + 1
      · subst q
        rw [if_neg (by omega), if_pos ⟨by omega, Nat.le_refl _⟩]
        cases y : F.getD (k + 1) default with
        | true => exact absurd y z
        | false => rfl
      · by_cases q2 : 1 ≤ j ∧ j ≤ k
        · rw [if_pos q2, if_pos ⟨q2.1, by omega⟩]
        · rw [if_neg q2, if_neg (fun y => q2 ⟨y.1, by omega⟩)]
theorem getD_ext {α : Type} [Inhabited α] {us vs : List α} (hl : us.length = vs.length) (h : ∀ j, j < us.length → us.getD j default = vs.getD j default) : us = vs := by
  apply List.ext_getElem hl
  intro i h1 h2
  have := h i h1
  simpa [List.getD, List.getElem?_eq_getElem h1, List.getElem?_eq_getElem h2] using this
theorem flags_back {n : Int} {R L : List Int} {F : List Bool} (w : WF n R L F) : flagsOf n (outL n F) = F := by
  have hl := flagsOf_len n (outL n F)
  refine getD_ext (by rw [hl, w.hF]) fun j hj => ?_
  rw [hl] at hj
  have e := flagsOf_outK w.n0 F n.toNat (by have := w.n0; omega) j hj
  have e2 : outK F n.toNat = outL n F := rfl
  rw [e2] at e
  rw [e]
  by_cases q : 1 ≤ j ∧ j ≤ n.toNat
  · rw [if_pos q]
  · rw [if_neg q]
    by_cases z : j = 0
    · subst z; exact w.f0.symm
    · have : j = (n + 1).toNat := by have := w.n0; omega
      rw [this]; exact w.f1.symm
theorem none_free : 124 ∉ TL.tl ("none" : Str) := by decide +kernel
theorem none_ne {us : List Int} (hne : us ≠ []) (h : ∀ u ∈ us, 0 ≤ u) : Txt.join " " (us.map strI) ≠ ("none" : Str) := by
  intro e
  cases us with
  | nil => exact hne rfl
  | cons u us =>
    have e2 := congrArg TL.tl e
    have e3 : TL.tl ("none" : Str) = [110, 111, 110, 101] := by decide +kernel
    rw [TL.join_eq, TL.tl_join, e3] at e2
    have h0 := tl_strI (h u List.mem_cons_self)
    have hne := TL.numL_ne u.toNat
    have hd := TL.numL_digits u.toNat
    cases q : TL.numL u.toNat with
    | nil => exact hne q
    | cons c r =>
      have hc : 48 ≤ c ∧ c ≤ 57 := hd c (by rw [q]; exact List.mem_cons_self)
      cases us with
      | nil =>
        have e4 : TL.tl (strI u) = [110, 111, 110, 101] := e2
        rw [h0, q] at e4
        injection e4 with e5
        omega
      | cons v vs =>
        have e4 : TL.tl (strI u) ++ (TL.tl " " ++ TL.joinL (TL.tl " ") ((v :: vs).map fun x => TL.tl (strI x))) = [110, 111, 110, 101] := by
          rw [← e2]
          simp only [List.map_cons, List.map_map]
          rfl
        rw [h0, q, List.cons_append] at e4
        injection e4 with e5
        omega
theorem WF.rs {n : Int} {R L : List Int} {F : List Bool} (w : WF n R L F) : ∀ u ∈ R, 0 ≤ u ∧ u < 1000000000 := by
  intro u hu
  obtain ⟨i, hi, rfl⟩ := List.getElem_of_mem hu
  have := w.r i _ (List.getElem?_eq_getElem hi)
  have := w.n1
  omega
theorem WF.ls {n : Int} {R L : List Int} {F : List Bool} (w : WF n R L F) : ∀ u ∈ L.drop 1, 0 ≤ u ∧ u < 1000000000 := by
  intro u hu
  obtain ⟨i, hi, rfl⟩ := List.getElem_of_mem hu
  have e : (L.drop 1)[i]? = L[1 + i]? := List.getElem?_drop ..
  rw [List.getElem?_eq_getElem hi] at e
  have h1 := w.l (1 + i) _ (by omega) e.symm
  have hl := w.hL
  have := w.n1
  rw [List.length_drop] at hi
  omega
theorem WF.os {n : Int} {R L : List Int} {F : List Bool} (w : WF n R L F) : ∀ u ∈ outL n F, 0 ≤ u ∧ u < 1000000000 := by
  intro u hu
  have := outL_mem hu
  have := w.n1
  omega
/-- the read-back -/
theorem text_parts {n : Int} {R L : List Int} {F : List Bool} (w : WF n R L F) : Txt.split (textOf n R L F) " | " = [Txt.join " " (R.map strI), Txt.join " " ((L.drop 1).map strI), goneT n F] := by
  unfold textOf
  refine split_three (no_bar fun u hu => (w.rs u hu).1) (no_bar fun u hu => (w.ls u hu).1) ?_
  unfold goneT
  split
  · exact none_free
  · exact no_bar fun u hu => (w.os u hu).1
theorem WF.rne {n : Int} {R L : List Int} {F : List Bool} (w : WF n R L F) : R ≠ [] := by
  intro e
  have h := w.hR
  have := w.n0
  rw [e] at h
  simp at h
  omega
theorem WF.lne {n : Int} {R L : List Int} {F : List Bool} (w : WF n R L F) : L.drop 1 ≠ [] := by
  intro e
  have h := congrArg List.length e
  rw [List.length_drop, w.hL] at h
  have := w.n0
  simp at h
  omega
theorem text_r {n : Int} {R L : List Int} {F : List Bool} (w : WF n R L F) : RdR (Txt.join " " (R.map strI)) R := by
  refine ⟨numsOf_join w.rne w.rs, ?_, fun i u hu => ?_⟩
  · have := w.hR; have := w.n1; omega
  · have := w.r i u hu
    have := w.hR
    have := w.n0
    omega
theorem text_l {n : Int} {R L : List Int} {F : List Bool} (w : WF n R L F) : RdL n (Txt.join " " ((L.drop 1).map strI)) (L.drop 1) := by
  refine ⟨numsOf_join w.lne w.ls, ?_, fun i u hu => ?_⟩
  · rw [List.length_drop, w.hL]; have := w.n0; omega
  · rw [List.getElem?_drop] at hu
    have := w.l (1 + i) u (by omega) hu
    omega
theorem text_o {n : Int} {R L : List Int} {F : List Bool} (w : WF n R L F) : RdO n (goneT n F) (outL n F) := by
  unfold goneT
  split
  · rename_i h
    exact .inl ⟨rfl, h⟩
  · rename_i h
    exact .inr ⟨none_ne h (fun u hu => (w.os u hu).1), numsOf_join h w.os, outL_ok w.n0 F⟩
theorem WF.lcons {n : Int} {R L : List Int} {F : List Bool} (w : WF n R L F) : -1 :: L.drop 1 = L := by
  cases e : L with
  | nil => have := w.l0; rw [e] at this; cases this
  | cons c t =>
    have := w.l0
    rw [e] at this
    cases this
    rfl
theorem text_len {n : Int} {R L : List Int} {F : List Bool} (w : WF n R L F) : (textOf n R L F).length ≤ 10000 ∧ (Txt.join " " (R.map strI)).length ≤ 610 ∧ (Txt.join " " ((L.drop 1).map strI)).length ≤ 610 ∧ (goneT n F).length ≤ 610 := by
  have h1 := (nums_len w.rs).1
  have h2 := (nums_len w.ls).1
  have h3 := (nums_len w.os).1
  have h4 := outL_len n F
  have := w.hR
  have := w.hL
  have := w.n1
  have hg : (goneT n F).length ≤ 610 := by
    unfold goneT
    split
    · show ("none" : Str).length ≤ 610
      have : ("none" : Str).length = 4 := by decide +kernel
      omega
    · omega
  rw [List.length_drop] at h2
  have hb : (" | " : Str).length = 3 := by decide +kernel
  refine ⟨?_, by omega, by omega, hg⟩
  unfold textOf
  rw [len_app, len_app, len_app, len_app, hb]
  omega
/-- what Links.read makes of the text -/
theorem read_text {a : AD} {n : Int} {R L : List Int} {F : List Bool} {H : Hp} {Q : VK} {E : XK} (w : WF n R L F) (k : newSp a n L (R ++ [n + 2]) F H Q) : readSp a (Txt.split (textOf n R L F) " | ") H Q E := by
  rw [text_parts w]
  have hr := text_r w
  have hl := text_l w
  have ho := text_o w
  have hn : (R.length : Int) - 1 = n := by have := w.hR; have := w.n0; omega
  have ur : ∀ us, RdR (Txt.join " " (R.map strI)) us → us = R := fun us h => by
    have := h.1
    rw [hr.1] at this
    exact (Option.some.inj this).symm
  have ul : ∀ us, RdL n (Txt.join " " ((L.drop 1).map strI)) us → us = L.drop 1 := fun us h => by
    have := h.1
    rw [hl.1] at this
    exact (Option.some.inj this).symm
  have uo : ∀ us, RdO n (goneT n F) us → us = outL n F := fun us h => by
    rcases h with ⟨e1, e2⟩ | ⟨e1, e2, _⟩ <;> rcases ho with ⟨d1, d2⟩ | ⟨d1, d2, _⟩
    · rw [e2, d2]
    · exact absurd e1 d1
    · exact absurd d1 e1
    · rw [d2] at e2
      exact (Option.some.inj e2).symm
  refine ⟨fun us ls os h1 _ h2 _ h3 _ => ?_, fun h => absurd hr (h R), fun us h1 h => ?_, fun us ls h1 _ h2 h => ?_, fun us ls os _ _ _ _ _ h => ?_⟩
  · have e1 := ur us h1
    subst e1
    rw [hn] at h2 h3 ⊢
    have e2 := ul ls h2
    have e3 := uo os h3
    subst e2 e3
    rw [w.lcons, flags_back w]
    exact k
  · have e1 := ur us h1
    subst e1
    rw [hn] at h
    exact absurd hl (h (by simp) _)
  · have e1 := ur us h1
    subst e1
    rw [hn] at h
    exact absurd ho (h (by simp) _)
  · simp at h

theorem fm_congr {α β : Type} {f g : α → Option β} : ∀ {l : List α}, (∀ x ∈ l, f x = g x) → l.filterMap f = l.filterMap g
  | [], _ => rfl
  | x :: l, h => by
    rw [List.filterMap_cons, List.filterMap_cons, h x List.mem_cons_self, fm_congr (fun y hy => h y (List.mem_cons_of_mem _ hy))]
/-! ### the dump -/
theorem cut_last {α : Type} {xs : List α} {x : α} : cut (xs ++ [x]) none (some (-1)) = xs := by
  unfold cut
  simp [HT.sIx]
  rw [show (-1 + ((xs.length : Int) + 1)).toNat = xs.length by omega, List.take_left]
theorem cut_tail {α : Type} {xs : List α} : cut xs (some 1) none = xs.drop 1 := by
  unfold cut
  simp only [HT.sIx]
  rw [if_neg (by decide)]
  cases xs with
  | nil => simp
  | cons x xs =>
    rw [show min (1 : Int).toNat (x :: xs).length = 1 by simp]
    simp
/-- the three parts -/
def sp_Links__dump_parts (a : AD) : Sp := fun vs H Q E => ∃ (x l r f : Addr) (n : Int) (L R : List Int) (F : List Bool), vs = [.ref x] ∧ Lnk a H x l r f n L (R ++ [n + 2]) F ∧ WF n R L F ∧ ∀ p H', H p = none → Kp [] H H' → H' p = some (.lst ([Txt.join " " (R.map strI), Txt.join " " ((L.drop 1).map strI), goneT n F].map V.str)) → Q (.ref p) H'
def sp_Links_dump (a : AD) : Sp := fun vs H Q E => ∃ (x l r f : Addr) (n : Int) (L R : List Int) (F : List Bool), vs = [.ref x] ∧ Lnk a H x l r f n L (R ++ [n + 2]) F ∧ WF n R L F ∧ ∀ H', Kp [] H H' → Q (.str (textOf n R L F)) H'
/-! ### the gaps -/
def stateOf (R L : List Int) (g : Int) : Str := if R.getD g.toNat default = g + 1 then (if L.getD (g + 1).toNat default = g then "joined" else "left") else if L.getD (g + 1).toNat default = g then "right" else "lost"
/-- the object at x is what is asked, its lists as long as they should be -/
def Obj (a : AD) (H : Hp) (x l r f : Addr) (n : Int) (L R : List Int) (F : List Bool) : Prop := Lnk a H x l r f n L R F ∧ 0 ≤ n ∧ n ≤ 60 ∧ L.length = (n + 2).toNat ∧ R.length = (n + 2).toNat ∧ F.length = (n + 2).toNat
theorem Obj.kp0 {a : AD} {H H' : Hp} {x l r f : Addr} {n : Int} {L R : List Int} {F : List Bool} (h : Obj a H x l r f n L R F) (k : Kp [] H H') : Obj a H' x l r f n L R F := ⟨h.1.kp0 k, h.2⟩
def sp_left_holds (a : AD) : Sp := fun vs H Q E => ∃ (x l r f : Addr) (n g : Int) (L R : List Int) (F : List Bool), vs = [.ref x, .int g] ∧ Obj a H x l r f n L R F ∧ 0 ≤ g ∧ g ≤ n ∧ Q (.bl (decide (R.getD g.toNat default = g + 1))) H
theorem sc_left_holds : FnScope ["links", "gap"] ["links", "gap"] (defScope s_left_holds) := ⟨rfl, rfl, rfl, by decide +kernel, rfl, by decide +kernel, by decide +kernel⟩
theorem ok_left_holds {P : Program} {w : World} {K : PySem.W.Frag} {mg : Str → Option Value} {base : Heap} {a : AD} (T : Txt P K mg a) (G_Links_right : FnA P w K mg base 2 a.f_Links_right ["self", "node"] (sp_Links_right a)) : FnA P w K mg base 3 a.f_left_holds ["links", "gap"] (sp_left_holds a) := by
  obtain ⟨fd, F, b⟩ := T.F_left_holds
  refine FnA.of F sc_left_holds b (fun vs H Q E h => by first | (obtain ⟨rfl, _⟩ := h; rfl) | (obtain ⟨_, rfl, _⟩ := h; rfl) | (obtain ⟨_, _, rfl, _⟩ := h; rfl) | (obtain ⟨_, _, _, rfl, _⟩ := h; rfl) | (obtain ⟨_, _, _, _, rfl, _⟩ := h; rfl) | (obtain ⟨_, _, _, _, _, rfl, _⟩ := h; rfl) | (obtain ⟨_, _, _, _, _, _, rfl, _⟩ := h; rfl) | (obtain ⟨_, _, _, _, _, _, _, rfl, _⟩ := h; rfl) | (obtain ⟨_, _, _, _, _, _, _, _, rfl, _⟩ := h; rfl) | (obtain ⟨_, _, _, _, _, _, _, _, _, rfl, _⟩ := h; rfl) | (obtain ⟨_, _, _, _, _, _, _, _, _, _, rfl, _⟩ := h; rfl) | (obtain ⟨_, _, _, _, _, _, _, _, _, _, _, rfl, _⟩ := h; rfl) | (obtain ⟨_, _, _, _, _, _, _, _, _, _, _, _, rfl, _⟩ := h; rfl) | (obtain ⟨_, _, _, _, _, _, _, _, _, _, _, _, _, rfl, _⟩ := h; rfl) | (obtain ⟨_, _, _, _, _, _, _, _, _, _, _, _, _, _, rfl, _⟩ := h; rfl) | (obtain ⟨_, _, _, _, _, _, _, _, _, _, _, _, _, _, _, rfl, _⟩ := h; rfl) | (obtain ⟨_, _, _, _, _, _, _, _, _, _, _, _, _, _, _, _, rfl, _⟩ := h; rfl) | (obtain ⟨_, _, _, _, _, _, _, _, _, _, _, _, _, _, _, _, _, rfl, _⟩ := h; rfl) | (obtain ⟨_, _, _, _, _, _, _, _, _, _, _, _, _, _, _, _, _, _, rfl, _⟩ := h; rfl) | (obtain ⟨_, _, _, _, _, _, _, _, _, _, _, _, _, _, _, _, _, _, _, rfl, _⟩ := h; rfl) | (obtain ⟨_, _, _, _, _, _, _, _, _, _, _, _, _, _, _, _, _, _, _, _, rfl, _⟩ := h; rfl) | (obtain ⟨_, _, _, _, _, _, _, _, _, _, _, _, _, _, _, _, _, _, _, _, _, rfl, _⟩ := h; rfl) | (obtain ⟨_, _, _, _, _, _, _, _, _, _, _, _, _, _, _, _, _, _, _, _, _, _, rfl, _⟩ := h; rfl) | (obtain ⟨_, _, _, _, _, _, _, _, _, _, _, _, _, _, _, _, _, _, _, _, _, _, _, rfl, _⟩ := h; rfl)) (fun cdv A outer s H vs Q E hr tk pz h => ?_)
  have hu := hr.units
  have hrH := L2H.roomH_of hr
  obtain ⟨x, l, r, f, n, g, L, R, F, rfl, hO, g0, g1, k⟩ := h
  have hx := hO.1.1.choose_spec
  refine ⟨_, (pss_one (ps_ret (pe_cmpR (o_eq hu) (pe_methS (pl := _) G_Links_right (Room.mono hr (by decide)) T.cl_Links T.me_Links_right tk (pv 0) (pa_cons (pv 1) pa_nil)) (pe_op o_add (pv 1) pe_int) (nomark _)))), ?_⟩
  show (_ : Ends → L2.St → Hp → Prop) _ [some _, some _] _
  try dsimp only [L2H.cxH, cxOf]
  walk_at "w"
  refine ⟨x, l, r, f, n, g, L, R, F, rfl, hO.1, hO.2.2.2.2.1, fun z => absurd ⟨g0, g1⟩ z, fun _ _ => ?_⟩
  walk_at "w"
  exact k
def sp_right_holds (a : AD) : Sp := fun vs H Q E => ∃ (x l r f : Addr) (n g : Int) (L R : List Int) (F : List Bool), vs = [.ref x, .int g] ∧ Obj a H x l r f n L R F ∧ 0 ≤ g ∧ g ≤ n ∧ Q (.bl (decide (L.getD (g + 1).toNat default = g))) H
theorem sc_right_holds : FnScope ["links", "gap"] ["links", "gap"] (defScope s_right_holds) := ⟨rfl, rfl, rfl, by decide +kernel, rfl, by decide +kernel, by decide +kernel⟩
theorem ok_right_holds {P : Program} {w : World} {K : PySem.W.Frag} {mg : Str → Option Value} {base : Heap} {a : AD} (T : Txt P K mg a) (G_Links_left : FnA P w K mg base 2 a.f_Links_left ["self", "node"] (sp_Links_left a)) : FnA P w K mg base 3 a.f_right_holds ["links", "gap"] (sp_right_holds a) := by
  obtain ⟨fd, F, b⟩ := T.F_right_holds
  refine FnA.of F sc_right_holds b (fun vs H Q E h => by first | (obtain ⟨rfl, _⟩ := h; rfl) | (obtain ⟨_, rfl, _⟩ := h; rfl) | (obtain ⟨_, _, rfl, _⟩ := h; rfl) | (obtain ⟨_, _, _, rfl, _⟩ := h; rfl) | (obtain ⟨_, _, _, _, rfl, _⟩ := h; rfl) | (obtain ⟨_, _, _, _, _, rfl, _⟩ := h; rfl) | (obtain ⟨_, _, _, _, _, _, rfl, _⟩ := h; rfl) | (obtain ⟨_, _, _, _, _, _, _, rfl, _⟩ := h; rfl) | (obtain ⟨_, _, _, _, _, _, _, _, rfl, _⟩ := h; rfl) | (obtain ⟨_, _, _, _, _, _, _, _, _, rfl, _⟩ := h; rfl) | (obtain ⟨_, _, _, _, _, _, _, _, _, _, rfl, _⟩ := h; rfl) | (obtain ⟨_, _, _, _, _, _, _, _, _, _, _, rfl, _⟩ := h; rfl) | (obtain ⟨_, _, _, _, _, _, _, _, _, _, _, _, rfl, _⟩ := h; rfl) | (obtain ⟨_, _, _, _, _, _, _, _, _, _, _, _, _, rfl, _⟩ := h; rfl) | (obtain ⟨_, _, _, _, _, _, _, _, _, _, _, _, _, _, rfl, _⟩ := h; rfl) | (obtain ⟨_, _, _, _, _, _, _, _, _, _, _, _, _, _, _, rfl, _⟩ := h; rfl) | (obtain ⟨_, _, _, _, _, _, _, _, _, _, _, _, _, _, _, _, rfl, _⟩ := h; rfl) | (obtain ⟨_, _, _, _, _, _, _, _, _, _, _, _, _, _, _, _, _, rfl, _⟩ := h; rfl) | (obtain ⟨_, _, _, _, _, _, _, _, _, _, _, _, _, _, _, _, _, _, rfl, _⟩ := h; rfl) | (obtain ⟨_, _, _, _, _, _, _, _, _, _, _, _, _, _, _, _, _, _, _, rfl, _⟩ := h; rfl) | (obtain ⟨_, _, _, _, _, _, _, _, _, _, _, _, _, _, _, _, _, _, _, _, rfl, _⟩ := h; rfl) | (obtain ⟨_, _, _, _, _, _, _, _, _, _, _, _, _, _, _, _, _, _, _, _, _, rfl, _⟩ := h; rfl) | (obtain ⟨_, _, _, _, _, _, _, _, _, _, _, _, _, _, _, _, _, _, _, _, _, _, rfl, _⟩ := h; rfl) | (obtain ⟨_, _, _, _, _, _, _, _, _, _, _, _, _, _, _, _, _, _, _, _, _, _, _, rfl, _⟩ := h; rfl)) (fun cdv A outer s H vs Q E hr tk pz h => ?_)
  have hu := hr.units
  have hrH := L2H.roomH_of hr
  obtain ⟨x, l, r, f, n, g, L, R, F, rfl, hO, g0, g1, k⟩ := h
  have hx := hO.1.1.choose_spec
  refine ⟨_, (pss_one (ps_ret (pe_cmpR (o_eq hu) (pe_methS (pl := _) G_Links_left (Room.mono hr (by decide)) T.cl_Links T.me_Links_left tk (pv 0) (pa_cons (pe_op o_add (pv 1) pe_int) pa_nil)) (pv 1) (nomark _)))), ?_⟩
  show (_ : Ends → L2.St → Hp → Prop) _ [some _, some _] _
  try dsimp only [L2H.cxH, cxOf]
  walk_at "w"
  refine ⟨x, l, r, f, n, g + 1, L, R, F, rfl, hO.1, hO.2.2.2.1, fun z => absurd ⟨by omega, by omega⟩ z, fun _ _ => ?_⟩
  walk_at "w"
  exact k
def sp_gap_state (a : AD) : Sp := fun vs H Q E => ∃ (x l r f : Addr) (n g : Int) (L R : List Int) (F : List Bool), vs = [.ref x, .int g] ∧ Obj a H x l r f n L R F ∧ (¬(0 ≤ g ∧ g ≤ n) → xBadGap a (.int g) E H) ∧ (0 ≤ g → g ≤ n → Q (.str (stateOf R L g)) H)
theorem sc_gap_state : FnScope ["links", "gap"] ["links", "gap"] (defScope s_gap_state) := ⟨rfl, rfl, rfl, by decide +kernel, rfl, by decide +kernel, by decide +kernel⟩
theorem ok_gap_state {P : Program} {w : World} {K : PySem.W.Frag} {mg : Str → Option Value} {base : Heap} {a : AD} (T : Txt P K mg a) (G_check_gap : FnA P w K mg base 2 a.f_check_gap ["size", "gap"] (sp_check_gap a)) (G_left_holds : FnA P w K mg base 3 a.f_left_holds ["links", "gap"] (sp_left_holds a)) (G_right_holds : FnA P w K mg base 3 a.f_right_holds ["links", "gap"] (sp_right_holds a)) : FnA P w K mg base 4 a.f_gap_state ["links", "gap"] (sp_gap_state a) := by
  obtain ⟨fd, F, b⟩ := T.F_gap_state
  refine FnA.of F sc_gap_state b (fun vs H Q E h => by first | (obtain ⟨rfl, _⟩ := h; rfl) | (obtain ⟨_, rfl, _⟩ := h; rfl) | (obtain ⟨_, _, rfl, _⟩ := h; rfl) | (obtain ⟨_, _, _, rfl, _⟩ := h; rfl) | (obtain ⟨_, _, _, _, rfl, _⟩ := h; rfl) | (obtain ⟨_, _, _, _, _, rfl, _⟩ := h; rfl) | (obtain ⟨_, _, _, _, _, _, rfl, _⟩ := h; rfl) | (obtain ⟨_, _, _, _, _, _, _, rfl, _⟩ := h; rfl) | (obtain ⟨_, _, _, _, _, _, _, _, rfl, _⟩ := h; rfl) | (obtain ⟨_, _, _, _, _, _, _, _, _, rfl, _⟩ := h; rfl) | (obtain ⟨_, _, _, _, _, _, _, _, _, _, rfl, _⟩ := h; rfl) | (obtain ⟨_, _, _, _, _, _, _, _, _, _, _, rfl, _⟩ := h; rfl) | (obtain ⟨_, _, _, _, _, _, _, _, _, _, _, _, rfl, _⟩ := h; rfl) | (obtain ⟨_, _, _, _, _, _, _, _, _, _, _, _, _, rfl, _⟩ := h; rfl) | (obtain ⟨_, _, _, _, _, _, _, _, _, _, _, _, _, _, rfl, _⟩ := h; rfl) | (obtain ⟨_, _, _, _, _, _, _, _, _, _, _, _, _, _, _, rfl, _⟩ := h; rfl) | (obtain ⟨_, _, _, _, _, _, _, _, _, _, _, _, _, _, _, _, rfl, _⟩ := h; rfl) | (obtain ⟨_, _, _, _, _, _, _, _, _, _, _, _, _, _, _, _, _, rfl, _⟩ := h; rfl) | (obtain ⟨_, _, _, _, _, _, _, _, _, _, _, _, _, _, _, _, _, _, rfl, _⟩ := h; rfl) | (obtain ⟨_, _, _, _, _, _, _, _, _, _, _, _, _, _, _, _, _, _, _, rfl, _⟩ := h; rfl) | (obtain ⟨_, _, _, _, _, _, _, _, _, _, _, _, _, _, _, _, _, _, _, _, rfl, _⟩ := h; rfl) | (obtain ⟨_, _, _, _, _, _, _, _, _, _, _, _, _, _, _, _, _, _, _, _, _, rfl, _⟩ := h; rfl) | (obtain ⟨_, _, _, _, _, _, _, _, _, _, _, _, _, _, _, _, _, _, _, _, _, _, rfl, _⟩ := h; rfl) | (obtain ⟨_, _, _, _, _, _, _, _, _, _, _, _, _, _, _, _, _, _, _, _, _, _, _, rfl, _⟩ := h; rfl)) (fun cdv A outer s H vs Q E hr tk pz h => ?_)
  have hu := hr.units
  have hrH := L2H.roomH_of hr
  obtain ⟨x, l, r, f, n, g, L, R, F, rfl, hO, h1, h2⟩ := h
  have hx := hO.1.1.choose_spec
  refine ⟨_, (pss_cons (ps_expr (pe_callA G_check_gap (Room.mono hr (by decide)) T.n_check_gap tk (pa_cons (pe_fld (pv 0) rfl) (pa_cons (pv 1) pa_nil))))
      (pss_cons (ps_if (pt_tru (pe_callA G_left_holds (Room.mono hr (by decide)) T.n_left_holds tk (pa_cons (pv 0) (pa_cons (pv 1) pa_nil)))) (pss_one (ps_ret (pe_ifExp (pt_tru (pe_callA G_right_holds (Room.mono hr (by decide)) T.n_right_holds tk (pa_cons (pv 0) (pa_cons (pv 1) pa_nil)))) pe_str pe_str))) pss_nil)
      (pss_one (ps_ret (pe_ifExp (pt_tru (pe_callA G_right_holds (Room.mono hr (by decide)) T.n_right_holds tk (pa_cons (pv 0) (pa_cons (pv 1) pa_nil)))) pe_str pe_str))))), ?_⟩
  show (_ : Ends → L2.St → Hp → Prop) _ [some _, some _] _
  try dsimp only [L2H.cxH, cxOf]
  walk_at "w"
  refine ⟨n, g, rfl, h1, fun g0 g1 => ?_⟩
  have k := h2 g0 g1
  unfold stateOf at k
  walk_at "w"
  refine ⟨x, l, r, f, n, g, L, R, F, rfl, hO, g0, g1, ?_⟩
  walk_at "w"
  refine w_ite (fun c1 => ?_) (fun c1 => ?_)
  · rw [if_pos c1] at k
    walk_at "w"
    refine ⟨x, l, r, f, n, g, L, R, F, rfl, hO, g0, g1, ?_⟩
    walk_at "w"
    refine w_ite (fun c2 => ?_) (fun c2 => ?_)
    · rw [if_pos c2] at k
      walk_at "w"
      exact k
    · rw [if_neg c2] at k
      walk_at "w"
      exact k
  · rw [if_neg c1] at k
    walk_at "w"
    refine ⟨x, l, r, f, n, g, L, R, F, rfl, hO, g0, g1, ?_⟩
    walk_at "w"
    refine w_ite (fun c2 => ?_) (fun c2 => ?_)
    · rw [if_pos c2] at k
      walk_at "w"
      exact k
    · rw [if_neg c2] at k
      walk_at "w"
      exact k
def statesOf (n : Int) (R L : List Int) : List Str := (List.range (n + 1).toNat).map fun i : Nat => stateOf R L (i : Int)
def lostF (n : Int) (R L : List Int) : List Int := (List.range (n + 1).toNat).filterMap fun i : Nat => if stateOf R L (i : Int) = ("lost" : Str) then some (i : Int) else none
def soleF (n : Int) (R L : List Int) : List Int := (List.range n.toNat).filterMap fun i : Nat => if stateOf R L (i : Int) = ("right" : Str) ∨ stateOf R L (1 + (i : Int)) = ("left" : Str) then some (1 + (i : Int)) else none
theorem statesOf_get {n : Int} {R L : List Int} {i : Nat} (h : i < (n + 1).toNat) : (statesOf n R L)[i]? = some (stateOf R L (i : Int)) := by
  unfold statesOf
  rw [List.getElem?_map, List.getElem?_range h]; rfl
theorem statesOf_getD {n : Int} {R L : List Int} {i : Nat} (h : i < (n + 1).toNat) : (statesOf n R L).getD i default = stateOf R L (i : Int) := by
  rw [List.getD_eq_getElem?_getD, statesOf_get h]; rfl
theorem statesOf_len (n : Int) (R L : List Int) : (statesOf n R L).length = (n + 1).toNat := by
  unfold statesOf
  rw [List.length_map, List.length_range]
def sp_gap_states (a : AD) : Sp := fun vs H Q E => ∃ (x l r f : Addr) (n : Int) (L R : List Int) (F : List Bool), vs = [.ref x] ∧ Obj a H x l r f n L R F ∧ ∀ p H', H p = none → Kp [] H H' → H' p = some (.lst ((statesOf n R L).map V.str)) → Q (.ref p) H'
theorem sc_gap_states : FnScope ["links", "gap"] ["links"] (defScope s_gap_states) := ⟨rfl, rfl, rfl, by decide +kernel, rfl, by decide +kernel, by decide +kernel⟩
theorem ok_gap_states {P : Program} {w : World} {K : PySem.W.Frag} {mg : Str → Option Value} {base : Heap} {a : AD} (T : Txt P K mg a) (G_gap_state : FnA P w K mg base 4 a.f_gap_state ["links", "gap"] (sp_gap_state a)) : FnA P w K mg base 5 a.f_gap_states ["links"] (sp_gap_states a) := by
  obtain ⟨fd, F, b⟩ := T.F_gap_states
  refine FnA.of F sc_gap_states b (fun vs H Q E h => by first | (obtain ⟨rfl, _⟩ := h; rfl) | (obtain ⟨_, rfl, _⟩ := h; rfl) | (obtain ⟨_, _, rfl, _⟩ := h; rfl) | (obtain ⟨_, _, _, rfl, _⟩ := h; rfl) | (obtain ⟨_, _, _, _, rfl, _⟩ := h; rfl) | (obtain ⟨_, _, _, _, _, rfl, _⟩ := h; rfl) | (obtain ⟨_, _, _, _, _, _, rfl, _⟩ := h; rfl) | (obtain ⟨_, _, _, _, _, _, _, rfl, _⟩ := h; rfl) | (obtain ⟨_, _, _, _, _, _, _, _, rfl, _⟩ := h; rfl) | (obtain ⟨_, _, _, _, _, _, _, _, _, rfl, _⟩ := h; rfl) | (obtain ⟨_, _, _, _, _, _, _, _, _, _, rfl, _⟩ := h; rfl) | (obtain ⟨_, _, _, _, _, _, _, _, _, _, _, rfl, _⟩ := h; rfl) | (obtain ⟨_, _, _, _, _, _, _, _, _, _, _, _, rfl, _⟩ := h; rfl) | (obtain ⟨_, _, _, _, _, _, _, _, _, _, _, _, _, rfl, _⟩ := h; rfl) | (obtain ⟨_, _, _, _, _, _, _, _, _, _, _, _, _, _, rfl, _⟩ := h; rfl) | (obtain ⟨_, _, _, _, _, _, _, _, _, _, _, _, _, _, _, rfl, _⟩ := h; rfl) | (obtain ⟨_, _, _, _, _, _, _, _, _, _, _, _, _, _, _, _, rfl, _⟩ := h; rfl) | (obtain ⟨_, _, _, _, _, _, _, _, _, _, _, _, _, _, _, _, _, rfl, _⟩ := h; rfl) | (obtain ⟨_, _, _, _, _, _, _, _, _, _, _, _, _, _, _, _, _, _, rfl, _⟩ := h; rfl) | (obtain ⟨_, _, _, _, _, _, _, _, _, _, _, _, _, _, _, _, _, _, _, rfl, _⟩ := h; rfl) | (obtain ⟨_, _, _, _, _, _, _, _, _, _, _, _, _, _, _, _, _, _, _, _, rfl, _⟩ := h; rfl) | (obtain ⟨_, _, _, _, _, _, _, _, _, _, _, _, _, _, _, _, _, _, _, _, _, rfl, _⟩ := h; rfl) | (obtain ⟨_, _, _, _, _, _, _, _, _, _, _, _, _, _, _, _, _, _, _, _, _, _, rfl, _⟩ := h; rfl) | (obtain ⟨_, _, _, _, _, _, _, _, _, _, _, _, _, _, _, _, _, _, _, _, _, _, _, rfl, _⟩ := h; rfl)) (fun cdv A outer s H vs Q E hr tk pz h => ?_)
  have hu := hr.units
  have hrH := L2H.roomH_of hr
  obtain ⟨x, l, r, f, n, L, R, F, rfl, hO, k⟩ := h
  have hx := hO.1.1.choose_spec
  have n0 := hO.2.1
  have n1 := hO.2.2.1
  refine ⟨_, (pss_one (ps_ret (pe_lc (own := [("gap", 1)]) (g := (gName 1)) (tt := tYes) rfl sc_gap_states.nd (pi_range1 rfl T.b_range (pa_cons (pe_op o_add (pe_fld (pv 0) rfl) pe_int) pa_nil)) (blkOk_by (own := [("gap", 1)]) (N := ["links", "gap"]) (sc := defScope s_gap_states) (by decide +kernel)) (fun _ _ _ _ _ => (pg_name (i := 1) sc_gap_states.nd rfl (Or.inl rfl))) (fun _ _ _ _ _ => pts_nil) (fun _ _ _ _ _ => (pe_callA G_gap_state (Room.mono hr (by decide)) T.n_gap_state takes0 (pa_cons (pv 0) (pa_cons (pv 1) pa_nil))))))), ?_⟩
  show (_ : Ends → L2.St → Hp → Prop) _ [some _, none] _
  try dsimp only [L2H.cxH, cxOf]
  walk_at "w"
  refine w_lcR1 (f' := V.str) (fun i : Nat => some (stateOf R L (i : Int))) (n := n + 1) (by omega) (by omega) (by rw [sizeLine_eq]; omega) ?_ ?_
  · intro D i acc H' hD hi hk hA hlen
    walk_at "w"
    refine ⟨rfl, ?_⟩
    walk_at "w"
    refine ⟨x, l, r, f, n, i, L, R, F, rfl, hO.kp0 hk, fun z => absurd ⟨by omega, by omega⟩ z, fun _ _ => ?_⟩
    exact w_keep hk hA hlen hD rfl
  · intro D H' hD hk hA
    rw [fm_some] at hA
    exact k D H' hD hk hA
theorem zip_states {n : Int} {R L : List Int} {β : Type} {ψ : Nat → Str → Option β} : ((statesOf n R L).zipIdx.filterMap fun q => ψ q.2 q.1) = (List.range (n + 1).toNat).filterMap fun i : Nat => ψ i (stateOf R L (i : Int)) := by
  have e : (statesOf n R L).zipIdx = (List.range (n + 1).toNat).map fun i : Nat => (stateOf R L (i : Int), i) := by
    apply List.ext_getElem?
    intro i
    rw [List.getElem?_zipIdx, List.getElem?_map]
    by_cases h : i < (n + 1).toNat
    · rw [statesOf_get h, List.getElem?_range h]
      simp
    · rw [List.getElem?_eq_none (by rw [statesOf_len]; omega), List.getElem?_eq_none (by simp; omega)]
      rfl
  rw [e, List.filterMap_map]
  rfl
def sp_lost_gaps (a : AD) : Sp := fun vs H Q E => ∃ (x l r f : Addr) (n : Int) (L R : List Int) (F : List Bool), vs = [.ref x] ∧ Obj a H x l r f n L R F ∧ ∀ p H', H p = none → Kp [] H H' → H' p = some (.lst ((lostF n R L).map V.int)) → Q (.ref p) H'
theorem sc_lost_gaps : FnScope ["links", "states", "gap", "state"] ["links"] (defScope s_lost_gaps) := ⟨rfl, rfl, rfl, by decide +kernel, rfl, by decide +kernel, by decide +kernel⟩
theorem ok_lost_gaps {P : Program} {w : World} {K : PySem.W.Frag} {mg : Str → Option Value} {base : Heap} {a : AD} (T : Txt P K mg a) (G_gap_states : FnA P w K mg base 5 a.f_gap_states ["links"] (sp_gap_states a)) : FnA P w K mg base 6 a.f_lost_gaps ["links"] (sp_lost_gaps a) := by
  obtain ⟨fd, F, b⟩ := T.F_lost_gaps
  refine FnA.of F sc_lost_gaps b (fun vs H Q E h => by first | (obtain ⟨rfl, _⟩ := h; rfl) | (obtain ⟨_, rfl, _⟩ := h; rfl) | (obtain ⟨_, _, rfl, _⟩ := h; rfl) | (obtain ⟨_, _, _, rfl, _⟩ := h; rfl) | (obtain ⟨_, _, _, _, rfl, _⟩ := h; rfl) | (obtain ⟨_, _, _, _, _, rfl, _⟩ := h; rfl) | (obtain ⟨_, _, _, _, _, _, rfl, _⟩ := h; rfl) | (obtain ⟨_, _, _, _, _, _, _, rfl, _⟩ := h; rfl) | (obtain ⟨_, _, _, _, _, _, _, _, rfl, _⟩ := h; rfl) | (obtain ⟨_, _, _, _, _, _, _, _, _, rfl, _⟩ := h; rfl) | (obtain ⟨_, _, _, _, _, _, _, _, _, _, rfl, _⟩ := h; rfl) | (obtain ⟨_, _, _, _, _, _, _, _, _, _, _, rfl, _⟩ := h; rfl) | (obtain ⟨_, _, _, _, _, _, _, _, _, _, _, _, rfl, _⟩ := h; rfl) | (obtain ⟨_, _, _, _, _, _, _, _, _, _, _, _, _, rfl, _⟩ := h; rfl) | (obtain ⟨_, _, _, _, _, _, _, _, _, _, _, _, _, _, rfl, _⟩ := h; rfl) | (obtain ⟨_, _, _, _, _, _, _, _, _, _, _, _, _, _, _, rfl, _⟩ := h; rfl) | (obtain ⟨_, _, _, _, _, _, _, _, _, _, _, _, _, _, _, _, rfl, _⟩ := h; rfl) | (obtain ⟨_, _, _, _, _, _, _, _, _, _, _, _, _, _, _, _, _, rfl, _⟩ := h; rfl) | (obtain ⟨_, _, _, _, _, _, _, _, _, _, _, _, _, _, _, _, _, _, rfl, _⟩ := h; rfl) | (obtain ⟨_, _, _, _, _, _, _, _, _, _, _, _, _, _, _, _, _, _, _, rfl, _⟩ := h; rfl) | (obtain ⟨_, _, _, _, _, _, _, _, _, _, _, _, _, _, _, _, _, _, _, _, rfl, _⟩ := h; rfl) | (obtain ⟨_, _, _, _, _, _, _, _, _, _, _, _, _, _, _, _, _, _, _, _, _, rfl, _⟩ := h; rfl) | (obtain ⟨_, _, _, _, _, _, _, _, _, _, _, _, _, _, _, _, _, _, _, _, _, _, rfl, _⟩ := h; rfl) | (obtain ⟨_, _, _, _, _, _, _, _, _, _, _, _, _, _, _, _, _, _, _, _, _, _, _, rfl, _⟩ := h; rfl)) (fun cdv A outer s H vs Q E hr tk pz h => ?_)
  have hu := hr.units
  have hrH := L2H.roomH_of hr
  obtain ⟨x, l, r, f, n, L, R, F, rfl, hO, k⟩ := h
  have n1 := hO.2.2.1
  refine ⟨_, (pss_cons (ps_set (i := 1) sc_lost_gaps.nd rfl (Or.inl rfl) (pe_callA G_gap_states (Room.mono hr (by decide)) T.n_gap_states tk (pa_cons (pv 0) pa_nil)))
      (pss_one (ps_ret (pe_lc (own := [("gap", 2), ("state", 3)]) (g := (gTup K 2 (gCons (gName 2) (gCons (gName 3) gNil)))) rfl sc_lost_gaps.nd (pi_enum rfl T.b_enumerate (pa_cons (pv 1) pa_nil)) (blkOk_by (own := [("gap", 2), ("state", 3)]) (N := ["links", "states", "gap", "state"]) (sc := defScope s_lost_gaps) (by decide +kernel)) (fun _ _ _ _ _ => (pg_tup rfl (pgs_cons (pg_name (i := 2) sc_lost_gaps.nd rfl (Or.inl rfl)) (pgs_cons (pg_name (i := 3) sc_lost_gaps.nd rfl (Or.inl rfl)) pgs_nil)))) (fun _ _ _ _ _ => (pts_one (pt_cmpA (show OpR _ _ (aEq K) from (o_eq hu)) (pv 3) pe_str (nomark _)))) (fun _ _ _ _ _ => (pv 2)))))), ?_⟩
  show (_ : Ends → L2.St → Hp → Prop) _ [some _, none, none, none] _
  try dsimp only [L2H.cxH, cxOf]
  walk_at "w"
  refine ⟨x, l, r, f, n, L, R, F, rfl, hO, fun p H1 hp k1 hp1 => ?_⟩
  have hsl := statesOf_len n R L
  walk_at "w"
  refine w_lcE (f := V.str) (f' := V.int) (fun i s => if s = ("lost" : Str) then some (i : Int) else none) hp1 (by rw [sizeLine_eq]; omega) ?_ ?_
  · intro D i u T acc H' hD hu hk hA hlen hT hTD
    refine ⟨rfl, ?_⟩
    walk_at "w"
    refine w_ite (fun c => ?_) (fun c => ?_)
    · walk_at "w"
      exact w_keep (hk.new hT) (upd_get (Ne.symm hTD) hA) hlen hD (by rw [if_pos c])
    · walk_at "w"
      exact w_drop (hk.new hT) (upd_get (Ne.symm hTD) hA) (by rw [if_neg c])
  · intro D H' hD hk hA
    rw [zip_states (ψ := fun i s => if s = ("lost" : Str) then some (i : Int) else none)] at hA
    exact k D H' (k1.free hD) (k1.trans hk) hA
def sp_sole_holders (a : AD) : Sp := fun vs H Q E => ∃ (x l r f : Addr) (n : Int) (L R : List Int) (F : List Bool), vs = [.ref x] ∧ Obj a H x l r f n L R F ∧ ∀ p H', H p = none → Kp [] H H' → H' p = some (.lst ((soleF n R L).map V.int)) → Q (.ref p) H'
theorem sc_sole_holders : FnScope ["links", "states", "nodes", "node"] ["links"] (defScope s_sole_holders) := ⟨rfl, rfl, rfl, by decide +kernel, rfl, by decide +kernel, by decide +kernel⟩
theorem ok_sole_holders {P : Program} {w : World} {K : PySem.W.Frag} {mg : Str → Option Value} {base : Heap} {a : AD} (T : Txt P K mg a) (G_gap_states : FnA P w K mg base 5 a.f_gap_states ["links"] (sp_gap_states a)) : FnA P w K mg base 6 a.f_sole_holders ["links"] (sp_sole_holders a) := by
  obtain ⟨fd, F, b⟩ := T.F_sole_holders
  refine FnA.of F sc_sole_holders b (fun vs H Q E h => by first | (obtain ⟨rfl, _⟩ := h; rfl) | (obtain ⟨_, rfl, _⟩ := h; rfl) | (obtain ⟨_, _, rfl, _⟩ := h; rfl) | (obtain ⟨_, _, _, rfl, _⟩ := h; rfl) | (obtain ⟨_, _, _, _, rfl, _⟩ := h; rfl) | (obtain ⟨_, _, _, _, _, rfl, _⟩ := h; rfl) | (obtain ⟨_, _, _, _, _, _, rfl, _⟩ := h; rfl) | (obtain ⟨_, _, _, _, _, _, _, rfl, _⟩ := h; rfl) | (obtain ⟨_, _, _, _, _, _, _, _, rfl, _⟩ := h; rfl) | (obtain ⟨_, _, _, _, _, _, _, _, _, rfl, _⟩ := h; rfl) | (obtain ⟨_, _, _, _, _, _, _, _, _, _, rfl, _⟩ := h; rfl) | (obtain ⟨_, _, _, _, _, _, _, _, _, _, _, rfl, _⟩ := h; rfl) | (obtain ⟨_, _, _, _, _, _, _, _, _, _, _, _, rfl, _⟩ := h; rfl) | (obtain ⟨_, _, _, _, _, _, _, _, _, _, _, _, _, rfl, _⟩ := h; rfl) | (obtain ⟨_, _, _, _, _, _, _, _, _, _, _, _, _, _, rfl, _⟩ := h; rfl) | (obtain ⟨_, _, _, _, _, _, _, _, _, _, _, _, _, _, _, rfl, _⟩ := h; rfl) | (obtain ⟨_, _, _, _, _, _, _, _, _, _, _, _, _, _, _, _, rfl, _⟩ := h; rfl) | (obtain ⟨_, _, _, _, _, _, _, _, _, _, _, _, _, _, _, _, _, rfl, _⟩ := h; rfl) | (obtain ⟨_, _, _, _, _, _, _, _, _, _, _, _, _, _, _, _, _, _, rfl, _⟩ := h; rfl) | (obtain ⟨_, _, _, _, _, _, _, _, _, _, _, _, _, _, _, _, _, _, _, rfl, _⟩ := h; rfl) | (obtain ⟨_, _, _, _, _, _, _, _, _, _, _, _, _, _, _, _, _, _, _, _, rfl, _⟩ := h; rfl) | (obtain ⟨_, _, _, _, _, _, _, _, _, _, _, _, _, _, _, _, _, _, _, _, _, rfl, _⟩ := h; rfl) | (obtain ⟨_, _, _, _, _, _, _, _, _, _, _, _, _, _, _, _, _, _, _, _, _, _, rfl, _⟩ := h; rfl) | (obtain ⟨_, _, _, _, _, _, _, _, _, _, _, _, _, _, _, _, _, _, _, _, _, _, _, rfl, _⟩ := h; rfl)) (fun cdv A outer s H vs Q E hr tk pz h => ?_)
  have hu := hr.units
  have hrH := L2H.roomH_of hr
  obtain ⟨x, l, r, f, n, L, R, F, rfl, hO, k⟩ := h
  have n0 := hO.2.1
  have n1 := hO.2.2.1
  have hx := hO.1.1.choose_spec
  refine ⟨_, (pss_cons (ps_set (i := 1) sc_sole_holders.nd rfl (Or.inr rfl) (pe_callA G_gap_states (Room.mono hr (by decide)) T.n_gap_states tk (pa_cons (pv 0) pa_nil)))
      (pss_cons (ps_set (i := 2) sc_sole_holders.nd rfl (Or.inl rfl) (pe_callTy b_range2 rfl T.b_range (by decide +kernel) (pa_cons pe_int (pa_cons (pe_op o_add (pe_fld (pv 0) rfl) pe_int) pa_nil))))
      (pss_one (ps_ret (pe_lc (own := [("node", 3)]) (g := (gName 3)) rfl sc_sole_holders.nd (pi_rng (pv 2)) (blkOk_by (own := [("node", 3)]) (N := ["links", "states", "nodes", "node"]) (sc := defScope s_sole_holders) (by decide +kernel)) (fun _ _ _ _ _ => (pg_name (i := 3) sc_sole_holders.nd rfl (Or.inl rfl))) (fun _ _ _ _ _ => (pts_one (PW.pt (pw_or (pt_cmpA (show OpR _ _ (aEq K) from (o_eq hu)) (pe_ix (show IxR _ (rIx K) from ix_seq) (pv 1) (pe_op op_sub (pv 3) pe_int) (fun _ _ => rfl)) pe_str (nomark _)) (pw_or1 (pt_cmpA (show OpR _ _ (aEq K) from (o_eq hu)) (pe_ix (show IxR _ (rIx K) from ix_seq) (pv 1) (pv 3) (fun _ _ => rfl)) pe_str (nomark _))))))) (fun _ _ _ _ _ => (pv 3))))))), ?_⟩
  show (_ : Ends → L2.St → Hp → Prop) _ [some _, none, none, none] _
  try dsimp only [L2H.cxH, cxOf]
  walk_at "w"
  refine ⟨x, l, r, f, n, L, R, F, rfl, hO, fun p H1 hp k1 hp1 => ?_⟩
  have hx1 := k1.at0 hx
  have hsl := statesOf_len n R L
  walk_at "w"
  intro q hq
  have hpq : p ≠ q := ne_of_none hp1 hq
  have hq0 : H q = none := k1.free hq
  have hp2 : upd H1 q (.rng 1 (n + 1)) p = some (.lst ((statesOf n R L).map V.str)) := upd_get hpq hp1
  have k2 : Kp [] H (upd H1 q (.rng 1 (n + 1))) := k1.own hq0
  have hq2 : upd H1 q (.rng 1 (n + 1)) q = some (.rng 1 (n + 1)) := upd_same
  generalize upd H1 q (.rng 1 (n + 1)) = H2 at hp2 k2 hq2
  walk_at "w"
  refine w_lcV (f' := V.int) (fun i : Nat => if stateOf R L (i : Int) = ("right" : Str) ∨ stateOf R L (1 + (i : Int)) = ("left" : Str) then some (1 + (i : Int)) else none) hq2 (by omega) (by omega) (by omega) (by omega) (by rw [sizeLine_eq]; omega) ?_ ?_
  · intro D i acc H' hD hi hk hA hlen
    have e1 : (statesOf n R L).getD (1 + (i : Int) - 1).toNat default = stateOf R L (i : Int) := by
      rw [show (1 + (i : Int) - 1).toNat = i by omega]
      exact statesOf_getD (by omega)
    have e2 : (statesOf n R L).getD (1 + (i : Int)).toNat default = stateOf R L (1 + (i : Int)) := by
      rw [show (1 + (i : Int)).toNat = i + 1 by omega, statesOf_getD (by omega), show ((i + 1 : Nat) : Int) = 1 + (i : Int) by omega]
    walk_at "w"
    refine ⟨rfl, ?_⟩
    walk_at "w"
    rw [e1]
    refine w_ite (fun c => ?_) (fun c => ?_)
    · walk_at "w"
      exact w_keep hk hA hlen hD (by rw [if_pos (Or.inl c)])
    · walk_at "w"
      rw [e2]
      refine w_ite (fun c2 => ?_) (fun c2 => ?_)
      · walk_at "w"
        exact w_keep hk hA hlen hD (by rw [if_pos (Or.inr c2)])
      · walk_at "w"
        exact w_drop hk hA (by rw [if_neg (fun z => z.elim c c2)])
  · intro D H' hD hk hA
    rw [show (n + 1 - 1).toNat = n.toNat by omega] at hA
    exact k D H' (k2.free hD) (k2.trans hk) hA

theorem state_left {R L : List Int} {g : Int} : stateOf R L g = ("left" : Str) ↔ R.getD g.toNat default = g + 1 ∧ ¬L.getD (g + 1).toNat default = g := by
  have n1 : ¬("joined" : Str) = ("left" : Str) := by decide
  have n2 : ¬("right" : Str) = ("left" : Str) := by decide
  have n3 : ¬("lost" : Str) = ("left" : Str) := by decide
  unfold stateOf
  by_cases c1 : R.getD g.toNat default = g + 1
  · rw [if_pos c1]
    by_cases c2 : L.getD (g + 1).toNat default = g
    · rw [if_pos c2]; exact ⟨fun z => absurd z n1, fun z => absurd c2 z.2⟩
    · rw [if_neg c2]; exact ⟨fun _ => ⟨c1, c2⟩, fun _ => rfl⟩
  · rw [if_neg c1]
    by_cases c2 : L.getD (g + 1).toNat default = g
    · rw [if_pos c2]; exact ⟨fun z => absurd z n2, fun z => absurd z.1 c1⟩
    · rw [if_neg c2]; exact ⟨fun z => absurd z n3, fun z => absurd z.1 c1⟩
theorem state_right {R L : List Int} {g : Int} : stateOf R L g = ("right" : Str) ↔ ¬R.getD g.toNat default = g + 1 ∧ L.getD (g + 1).toNat default = g := by
  have n1 : ¬("joined" : Str) = ("right" : Str) := by decide
  have n2 : ¬("left" : Str) = ("right" : Str) := by decide
  have n3 : ¬("lost" : Str) = ("right" : Str) := by decide
  unfold stateOf
  by_cases c1 : R.getD g.toNat default = g + 1
  · rw [if_pos c1]
    by_cases c2 : L.getD (g + 1).toNat default = g
    · rw [if_pos c2]; exact ⟨fun z => absurd z n1, fun z => absurd c1 z.1⟩
    · rw [if_neg c2]; exact ⟨fun z => absurd z n2, fun z => absurd z.2 c2⟩
  · rw [if_neg c1]
    by_cases c2 : L.getD (g + 1).toNat default = g
    · rw [if_pos c2]; exact ⟨fun _ => ⟨c1, c2⟩, fun _ => rfl⟩
    · rw [if_neg c2]; exact ⟨fun z => absurd z n3, fun z => absurd z.2 c2⟩
theorem state_app {n : Int} {R L : List Int} {F : List Bool} (w : WF n R L F) {g : Nat} (h : g < (n + 1).toNat) {x : Int} : stateOf (R ++ [x]) L (g : Int) = stateOf R L (g : Int) := by
  have e : (R ++ [x]).getD (g : Int).toNat default = R.getD (g : Int).toNat default := by
    rw [List.getD_eq_getElem?_getD, List.getD_eq_getElem?_getD, List.getElem?_append_left (by rw [w.hR]; omega)]
  unfold stateOf
  rw [e]
theorem states_app {n : Int} {R L : List Int} {F : List Bool} (w : WF n R L F) {x : Int} : statesOf n (R ++ [x]) L = statesOf n R L := by
  unfold statesOf
  apply List.map_congr_left
  intro i hi
  rw [List.mem_range] at hi
  exact state_app w hi
theorem lost_app {n : Int} {R L : List Int} {F : List Bool} (w : WF n R L F) {x : Int} : lostF n (R ++ [x]) L = lostF n R L := by
  unfold lostF
  apply fm_congr
  intro i hi
  rw [List.mem_range] at hi
  rw [state_app w hi]
theorem sole_app {n : Int} {R L : List Int} {F : List Bool} (w : WF n R L F) {x : Int} : soleF n (R ++ [x]) L = soleF n R L := by
  have n0 := w.n0
  unfold soleF
  apply fm_congr
  intro i hi
  rw [List.mem_range] at hi
  rw [state_app w (by omega), show 1 + (i : Int) = ((i + 1 : Nat) : Int) by omega, state_app w (by omega)]
def soleK (R L : List Int) (k : Nat) : List Int := (List.range k).filterMap fun i : Nat => if stateOf R L (i : Int) = ("right" : Str) ∨ stateOf R L (1 + (i : Int)) = ("left" : Str) then some (1 + (i : Int)) else none
theorem soleK_succ (R L : List Int) (k : Nat) : soleK R L (k + 1) = soleK R L k ++ (if stateOf R L (k : Int) = ("right" : Str) ∨ stateOf R L (1 + (k : Int)) = ("left" : Str) then [1 + (k : Int)] else []) := by
  unfold soleK
  rw [List.range_succ, List.filterMap_append]
  congr 1
  rw [List.filterMap_cons, List.filterMap_nil]
  by_cases z : stateOf R L (k : Int) = ("right" : Str) ∨ stateOf R L (1 + (k : Int)) = ("left" : Str)
  · rw [if_pos z, if_pos z]
  · rw [if_neg z, if_neg z]
theorem soleK_len (R L : List Int) (k : Nat) : (soleK R L k).length ≤ k := by
  have := fm_len (fun i : Nat => if stateOf R L (i : Int) = ("right" : Str) ∨ stateOf R L (1 + (i : Int)) = ("left" : Str) then some (1 + (i : Int)) else none) (List.range k)
  rw [List.length_range] at this
  exact this
theorem lostF_len (n : Int) (R L : List Int) : (lostF n R L).length ≤ (n + 1).toNat := by
  have := fm_len (fun i : Nat => if stateOf R L (i : Int) = ("lost" : Str) then some (i : Int) else none) (List.range (n + 1).toNat)
  rw [List.length_range] at this
  exact this

/-! ### the law's own standing: [size, rights, lefts, flags] -/
def Wd (H : Hp) (w r l f : Addr) (n : Int) (R L : List Int) (F : List Bool) : Prop := H w = some (.lst [.int n, .ref r, .ref l, .ref f]) ∧ H r = some (.lst (R.map V.int)) ∧ H l = some (.lst (L.map V.int)) ∧ H f = some (.lst (F.map V.bl)) ∧ w ≠ r ∧ w ≠ l ∧ w ≠ f ∧ r ≠ l ∧ r ≠ f ∧ l ≠ f
theorem Wd.kp {ms : List Addr} {H H' : Hp} {w r l f : Addr} {n : Int} {R L : List Int} {F : List Bool} (h : Wd H w r l f n R L F) (k : Kp ms H H') (h1 : w ∉ ms) (h2 : r ∉ ms) (h3 : l ∉ ms) (h4 : f ∉ ms) : Wd H' w r l f n R L F :=
  ⟨k.at h.1 h1, k.at h.2.1 h2, k.at h.2.2.1 h3, k.at h.2.2.2.1 h4, h.2.2.2.2⟩
theorem Wd.kp0 {H H' : Hp} {w r l f : Addr} {n : Int} {R L : List Int} {F : List Bool} (h : Wd H w r l f n R L F) (k : Kp [] H H') : Wd H' w r l f n R L F := h.kp k List.not_mem_nil List.not_mem_nil List.not_mem_nil List.not_mem_nil
/-! ### a drawn standing -/
/-- as WF, but the flags are of the law's own list -/
theorem rep_get {α : Type} [Inhabited α] {n i : Nat} {u : α} (h : i < n) : (List.replicate n u).getD i default = u := by
  simp [List.getD, List.getElem?_replicate, h]
theorem fm_rep {β : Type} {b : β} : ∀ {k : Nat}, (List.range k).filterMap (fun _ => some b) = List.replicate k b
  | 0 => rfl
  | k + 1 => by rw [List.range_succ, List.filterMap_append, fm_rep, List.replicate_succ']; rfl
def r0 (n : Int) : List Int := (List.range (n + 1).toNat).map fun i : Nat => (i : Int) + 1
def l0 (n : Int) : List Int := (List.range (n + 2).toNat).map fun i : Nat => (i : Int) - 1
theorem wf0 {n : Int} (n0 : 0 ≤ n) (n1 : n ≤ 60) : WF n (r0 n) (l0 n) (List.replicate (n + 2).toNat false) where
  n0 := n0
  n1 := n1
  hR := by simp [r0]
  hL := by simp [l0]
  hF := by simp
  r := fun i u h => by
    unfold r0 at h
    rw [List.getElem?_map] at h
    by_cases z : i < (n + 1).toNat
    · rw [List.getElem?_range z] at h
      have h : (i : Int) + 1 = u := Option.some.inj h
      omega
    · rw [List.getElem?_eq_none (by simp; omega)] at h
      cases h
  l0 := by
    unfold l0
    rw [List.getElem?_map, List.getElem?_range (by omega)]; rfl
  l := fun i u hi h => by
    unfold l0 at h
    rw [List.getElem?_map] at h
    by_cases z : i < (n + 2).toNat
    · rw [List.getElem?_range z] at h
      have h : (i : Int) - 1 = u := Option.some.inj h
      omega
    · rw [List.getElem?_eq_none (by simp; omega)] at h
      cases h
  f0 := rep_get (by omega)
  f1 := rep_get (by omega)
theorem get_set {us : List Int} {i j : Nat} {u v : Int} (h : (us.set i u)[j]? = some v) : (i = j ∧ v = u) ∨ (i ≠ j ∧ us[j]? = some v) := by
  by_cases z : i = j
  · subst z
    rw [List.getElem?_set_self'] at h
    cases q : us[i]? with
    | none => rw [q] at h; cases h
    | some x => rw [q] at h; cases h; exact .inl ⟨rfl, rfl⟩
  · rw [List.getElem?_set_ne z] at h
    exact .inr ⟨z, h⟩
theorem WF.setR {n : Int} {R L : List Int} {F : List Bool} (w : WF n R L F) {i : Nat} {u : Int} (h : (i : Int) < u ∧ u ≤ n + 1) : WF n (R.set i u) L F := by
  refine ⟨w.n0, w.n1, by rw [List.length_set]; exact w.hR, w.hL, w.hF, fun j v e => ?_, w.l0, w.l, w.f0, w.f1⟩
  rcases get_set e with ⟨rfl, rfl⟩ | ⟨_, e⟩
  · exact h
  · exact w.r j v e
theorem WF.setL {n : Int} {R L : List Int} {F : List Bool} (w : WF n R L F) {i : Nat} {u : Int} (h : 1 ≤ i) (h2 : 0 ≤ u ∧ u < (i : Int)) : WF n R (L.set i u) F := by
  refine ⟨w.n0, w.n1, w.hR, by rw [List.length_set]; exact w.hL, w.hF, w.r, by rw [List.getElem?_set_ne (by omega)]; exact w.l0, fun j v hj e => ?_, w.f0, w.f1⟩
  rcases get_set e with ⟨rfl, rfl⟩ | ⟨_, e⟩
  · exact h2
  · exact w.l j v hj e
theorem WF.setF {n : Int} {R L : List Int} {F : List Bool} (w : WF n R L F) {i : Nat} {u : Bool} (h : 1 ≤ i) (h2 : (i : Int) ≤ n) : WF n R L (F.set i u) :=
  ⟨w.n0, w.n1, w.hR, w.hL, by rw [List.length_set]; exact w.hF, w.r, w.l0, w.l, by rw [getD_set_ne (by omega)]; exact w.f0, by rw [getD_set_ne (by omega)]; exact w.f1⟩
/-- the law's step -/
def stR (R L : List Int) (o : Int) : List Int := R.set (L.getD o.natAbs default).toNat (if o < 0 then R.getD o.natAbs default else (o.natAbs : Int))
theorem WF.at {n : Int} {R L : List Int} {F : List Bool} (w : WF n R L F) {v : Nat} (h1 : 1 ≤ v) (h2 : (v : Int) ≤ n) : 0 ≤ L.getD v default ∧ L.getD v default < (v : Int) ∧ (v : Int) < R.getD v default ∧ R.getD v default ≤ n + 1 := by
  have hl : v < L.length := by rw [w.hL]; omega
  have hr : v < R.length := by rw [w.hR]; omega
  have a1 := w.l v _ h1 (getD_some hl)
  have a2 := w.r v _ (getD_some hr)
  omega
theorem WF.ap {n : Int} {R L : List Int} {F : List Bool} (w : WF n R L F) {o : Int} (h : IsOp n o) : WF n (apR L R o) (apL L R o) (apF F o) := by
  have h1 := h.1
  have h2 := h.2
  have q := w.at (v := o.natAbs) (by omega) h2
  unfold apR apL apF
  have wr : WF n (R.set (L.getD o.natAbs default).toNat (if o < 0 then R.getD o.natAbs default else (o.natAbs : Int))) L F := w.setR (by split <;> omega)
  have wl := wr.setL (i := (R.getD o.natAbs default).toNat) (u := if o < 0 then L.getD o.natAbs default else (o.natAbs : Int)) (by omega) (by split <;> omega)
  exact wl.setF (by omega) (by omega)
/-! ### apart -/
theorem sep_of {H : Hp} {xs ys : List Addr} (fresh : ∀ x ∈ xs, H x = none) (live : ∀ y ∈ ys, ∃ o, H y = some o) : ∀ x ∈ xs, x ∉ ys := fun x hx hy => by
  obtain ⟨o, e⟩ := live x hy
  rw [fresh x hx] at e; cases e
theorem sep_of' {H : Hp} {xs ys : List Addr} (live : ∀ y ∈ xs, ∃ o, H y = some o) (fresh : ∀ x ∈ ys, H x = none) : ∀ x ∈ xs, x ∉ ys := fun x hx hy => by
  obtain ⟨o, e⟩ := live x hx
  rw [fresh x hy] at e; cases e
theorem Lnk.live {a : AD} {H : Hp} {x l r f : Addr} {n : Int} {L R : List Int} {F : List Bool} (h : Lnk a H x l r f n L R F) : ∀ y ∈ [x, l, r, f], ∃ o, H y = some o := by
  obtain ⟨⟨dx, h1⟩, h2, h3, h4, _⟩ := h
  intro y hy
  simp only [List.mem_cons, List.mem_nil_iff, or_false] at hy
  rcases hy with rfl | rfl | rfl | rfl
  · exact ⟨_, h1⟩
  · exact ⟨_, h2⟩
  · exact ⟨_, h3⟩
  · exact ⟨_, h4⟩
theorem Wd.live {H : Hp} {w r l f : Addr} {n : Int} {R L : List Int} {F : List Bool} (h : Wd H w r l f n R L F) : ∀ y ∈ [w, r, l, f], ∃ o, H y = some o := by
  obtain ⟨h1, h2, h3, h4, _⟩ := h
  intro y hy
  simp only [List.mem_cons, List.mem_nil_iff, or_false] at hy
  rcases hy with rfl | rfl | rfl | rfl
  · exact ⟨_, h1⟩
  · exact ⟨_, h2⟩
  · exact ⟨_, h3⟩
  · exact ⟨_, h4⟩
theorem four {H : Hp} {x l r f : Addr} (h1 : H x = none) (h2 : H l = none) (h3 : H r = none) (h4 : H f = none) : ∀ y ∈ [x, l, r, f], H y = none := by
  intro y hy
  simp only [List.mem_cons, List.mem_nil_iff, or_false] at hy
  rcases hy with rfl | rfl | rfl | rfl <;> assumption
theorem Lnk.kpS {a : AD} {ms : List Addr} {H H' : Hp} {x l r f : Addr} {n : Int} {L R : List Int} {F : List Bool} (h : Lnk a H x l r f n L R F) (k : Kp ms H H') (s : ∀ y ∈ [x, l, r, f], y ∉ ms) : Lnk a H' x l r f n L R F :=
  h.kp k (s x (by simp)) (s l (by simp)) (s r (by simp)) (s f (by simp))
theorem Wd.kpS {ms : List Addr} {H H' : Hp} {w r l f : Addr} {n : Int} {R L : List Int} {F : List Bool} (h : Wd H w r l f n R L F) (k : Kp ms H H') (s : ∀ y ∈ [w, r, l, f], y ∉ ms) : Wd H' w r l f n R L F :=
  h.kp k (s w (by simp)) (s r (by simp)) (s l (by simp)) (s f (by simp))
theorem sep_sub {xs ys zs : List Addr} (s : ∀ x ∈ xs, x ∉ ys) (h : ∀ z ∈ zs, z ∈ ys) : ∀ x ∈ xs, x ∉ zs := fun x hx hz => s x hx (h x hz)
theorem sep_mono {xs ys xs' ys' : List Addr} (s : ∀ x ∈ xs, x ∉ ys) (h1 : ∀ z ∈ xs', z ∈ xs) (h2 : ∀ z ∈ ys', z ∈ ys) : ∀ x ∈ xs', x ∉ ys' := fun x hx hz => s x (h1 x hx) (h2 x hz)
theorem sep_swap {xs ys : List Addr} (s : ∀ x ∈ xs, x ∉ ys) : ∀ y ∈ ys, y ∉ xs := fun y hy hx => s y hx hy
theorem ap_app {n : Int} {R L : List Int} {F : List Bool} (w : WF n R L F) {o x : Int} (h : IsOp n o) : apR L (R ++ [x]) o = apR L R o ++ [x] ∧ apL L (R ++ [x]) o = apL L R o := by
  have h2 := h.2
  have h1 := h.1
  have q := w.at (v := o.natAbs) (by omega) h2
  have hR := w.hR
  have e : (R ++ [x]).getD o.natAbs default = R.getD o.natAbs default := by
    rw [List.getD_eq_getElem?_getD, List.getD_eq_getElem?_getD, List.getElem?_append_left (by omega)]
  unfold apR apL
  rw [e, List.set_append_left _ _ (by omega)]
  exact ⟨rfl, rfl⟩

/-! ### changes of gaps -/
def sp_Links_operation_on (a : AD) : Sp := fun vs H Q E => ∃ (x l r f : Addr) (n v : Int) (L R : List Int) (F : List Bool), vs = [.ref x, .int v] ∧ Obj a H x l r f n L R F ∧ 0 ≤ v ∧ v ≤ n + 1 ∧ Q (.int (if F.getD v.toNat default = true then v else -v)) H
def sp_touched_gaps (a : AD) : Sp := fun vs H Q E => ∃ (x l r f : Addr) (n v : Int) (L R : List Int) (F : List Bool), vs = [.ref x, .int v] ∧ Obj a H x l r f n L R F ∧ 1 ≤ v ∧ v ≤ n ∧ ∀ p, H p = none → Q (.ref p) (upd H p (.lst ([L.getD v.toNat default, R.getD v.toNat default - 1].map V.int)))
/-- the changes at the touched gaps -/
def chgAt (R L R' L' : List Int) (g : Int) : List (List V) := if stateOf R L g = stateOf R' L' g then [] else [[.int g, .str (stateOf R L g), .str (stateOf R' L' g)]]
def chgF (R L : List Int) (o : Int) : List (List V) := chgAt R L (apR L R o) (apL L R o) (L.getD o.natAbs default) ++ chgAt R L (apR L R o) (apL L R o) (R.getD o.natAbs default - 1)
/-- the refusals of an operation -/
def refuseSp (a : AD) (n o : Int) (F : List Bool) (H : Hp) (E : XK) (k : Prop) : Prop := (¬IsOp n o → xBadOperation a (.int o) (.int 0) E H) ∧ (IsOp n o → F.getD o.natAbs default = decide (o < 0) → xIllegal a (.int o) (.int 0) E H) ∧ (IsOp n o → F.getD o.natAbs default ≠ decide (o < 0) → k)
def sp_gap_changes (a : AD) : Sp := fun vs H Q E => ∃ (x l r f : Addr) (n o : Int) (L R : List Int) (F : List Bool), vs = [.ref x, .int o] ∧ Obj a H x l r f n L R F ∧
  refuseSp a n o F H E (0 ≤ L.getD o.natAbs default ∧ L.getD o.natAbs default ≤ n ∧ 1 ≤ R.getD o.natAbs default ∧ R.getD o.natAbs default ≤ n + 1 ∧ ∀ p xs H', H p = none → Kp [] H H' → H' p = some (.lst xs) → Tps H' xs (chgF R L o) → Q (.ref p) H')
/-- the gaps of the foreign writes -/
def frgF (R L : List Int) (v : Int) : List Int := (if L.getD v.toNat default ≠ v - 1 ∧ R.getD (L.getD v.toNat default).toNat default = L.getD v.toNat default + 1 then [L.getD v.toNat default] else []) ++
  (if R.getD v.toNat default ≠ v + 1 ∧ L.getD (R.getD v.toNat default).toNat default = R.getD v.toNat default - 1 then [R.getD v.toNat default - 1] else [])
def sp_foreign_writes (a : AD) : Sp := fun vs H Q E => ∃ (x l r f : Addr) (n o : Int) (L R : List Int) (F : List Bool), vs = [.ref x, .int o] ∧ Obj a H x l r f n L R F ∧
  refuseSp a n o F H E (0 ≤ L.getD o.natAbs default ∧ L.getD o.natAbs default ≤ n ∧ 1 ≤ R.getD o.natAbs default ∧ R.getD o.natAbs default ≤ n + 1 ∧ ∀ p H', H p = none → Kp [] H H' → H' p = some (.lst ((frgF R L (o.natAbs : Int)).map V.int)) → Q (.ref p) H')

/-! ### runs of operations -/
def stS (s : List Int × List Int × List Bool) (o : Int) : List Int × List Int × List Bool := (apR s.2.1 s.1 o, apL s.2.1 s.1 o, apF s.2.2 o)
def runS (s : List Int × List Int × List Bool) (log : List Int) : List Int × List Int × List Bool := log.foldl stS s
def OkAt (n : Int) (s : List Int × List Int × List Bool) (o : Int) : Prop := IsOp n o ∧ s.2.2.getD o.natAbs default ≠ decide (o < 0)
def WFs (n : Int) (s : List Int × List Int × List Bool) : Prop := WF n s.1 s.2.1 s.2.2
def okTo (n : Int) (s : List Int × List Int × List Bool) (log : List Int) (i : Nat) : Prop := ∀ (j : Nat) (o : Int), j < i → log[j]? = some o → OkAt n (runS s (log.take j)) o
theorem runS_snoc (s : List Int × List Int × List Bool) (l : List Int) (o : Int) : runS s (l ++ [o]) = stS (runS s l) o := by
  unfold runS
  rw [List.foldl_append]; rfl
theorem runS_wf {n : Int} {s : List Int × List Int × List Bool} {log : List Int} (w : WFs n s) : ∀ i, i ≤ log.length → okTo n s log i → WFs n (runS s (log.take i))
  | 0, _, _ => w
  | i + 1, hi, h => by
    have hu : log[i]? = some log[i] := List.getElem?_eq_getElem (by omega)
    have ih := runS_wf w i (by omega) (fun j o hj => h j o (by omega))
    rw [take_snoc hu, runS_snoc]
    exact WF.ap ih (h i _ (by omega) hu).1
/-- what a run over the log asks -/
def playSp (a : AD) (n : Int) (s : List Int × List Int × List Bool) (log : List Int) (H : Hp) (E : XK) (k : Prop) : Prop :=
  (∀ (i : Nat) (o : Int), log[i]? = some o → okTo n s log i → ¬IsOp n o → xBadOperation a (.int o) (.int (i : Int)) E H) ∧
  (∀ (i : Nat) (o : Int), log[i]? = some o → okTo n s log i → IsOp n o → (runS s (log.take i)).2.2.getD o.natAbs default = decide (o < 0) → xIllegal a (.int o) (.int (i : Int)) E H) ∧
  (okTo n s log log.length → k)
def sp_play (a : AD) : Sp := fun vs H Q E => ∃ (x l r f pl : Addr) (n : Int) (s : List Int × List Int × List Bool) (log : List Int), vs = [.ref x, .ref pl] ∧ Lnk a H x l r f n s.2.1 (s.1 ++ [n + 2]) s.2.2 ∧ WFs n s ∧ H pl = some (.lst (log.map V.int)) ∧ log.length ≤ 100000 ∧
  playSp a n s log H E (newSp a n (runS s log).2.1 ((runS s log).1 ++ [n + 2]) (runS s log).2.2 H Q)

/-! ### a new list -/
theorem gd_app {us : List Int} {x : Int} {i : Nat} (h : i < us.length) : (us ++ [x]).getD i default = us.getD i default := by
  rw [List.getD_eq_getElem?_getD, List.getD_eq_getElem?_getD, List.getElem?_append_left h]
theorem tps_app {H : Hp} {p T : Addr} {xs vs : List V} {ts : List (List V)} (hp : H p = some (.lst xs)) (h : Tps H xs ts) (hT : H T = none) : Tps (upd (upd H T (.tup vs)) p (.lst (xs ++ [.ref T]))) (xs ++ [.ref T]) (ts ++ [vs]) :=
  Tps.snoc ((h.new hT).mut (upd_new hT hp)) (upd_get (Ne.symm (ne_of_none hp hT)) upd_same)
theorem nm_sub {g : Addr} {xs ys : List Addr} (h : g ∉ ys) (s : ∀ z ∈ xs, z ∈ ys) : g ∉ xs := fun z => h (s _ z)
theorem nm_swap {q : Addr} {xs : List Addr} (h : q ∉ xs) : ∀ y ∈ xs, y ∉ [q] := fun y hy z => h (by rw [List.mem_singleton.mp z] at hy; exact hy)
/-- one fresh address is none of those that stand -/
theorem nm_of {H : Hp} {q : Addr} {ys : List Addr} (h : H q = none) (live : ∀ y ∈ ys, ∃ o, H y = some o) : q ∉ ys := fun z => by
  obtain ⟨o, e⟩ := live q z
  rw [h] at e; cases e
theorem rgI_l0 (n : Int) : rgI (-1) (n + 1) = l0 n := by
  unfold rgI l0
  rw [show (n + 1 - -1).toNat = (n + 2).toNat by omega]
  exact List.map_congr_left fun i _ => by omega
theorem rgI_r0 {n : Int} (n0 : 0 ≤ n) : rgI 1 (n + 3) = r0 n ++ [n + 2] := by
  unfold rgI r0
  rw [show (n + 3 - 1).toNat = (n + 1).toNat + 1 by omega, List.range_succ, List.map_append]
  refine congr (congrArg _ ?_) ?_
  · exact List.map_congr_left fun i _ => by omega
  · simp; omega
def s0 (n : Int) : List Int × List Int × List Bool := (r0 n, l0 n, List.replicate (n + 2).toNat false)
theorem wfs0 {n : Int} (n0 : 0 ≤ n) (n1 : n ≤ 60) : WFs n (s0 n) := wf0 n0 n1
/-- the object at x bears the standing s -/
def LkS (a : AD) (H : Hp) (x l r f : Addr) (n : Int) (s : List Int × List Int × List Bool) : Prop := Lnk a H x l r f n s.2.1 (s.1 ++ [n + 2]) s.2.2
theorem LkS.kp0 {a : AD} {H H' : Hp} {x l r f : Addr} {n : Int} {s : List Int × List Int × List Bool} (h : LkS a H x l r f n s) (k : Kp [] H H') : LkS a H' x l r f n s := Lnk.kp0 h k
theorem LkS.obj {a : AD} {H : Hp} {x l r f : Addr} {n : Int} {s : List Int × List Int × List Bool} (h : LkS a H x l r f n s) (W : WFs n s) : Obj a H x l r f n s.2.1 (s.1 ++ [n + 2]) s.2.2 :=
  ⟨h, WF.n0 W, WF.n1 W, WF.hL W, by rw [List.length_append, WF.hR W]; have := WF.n0 W; simp; omega, WF.hF W⟩
/-- what `Links(size)` asks -/
theorem mk_new {a : AD} {n : Int} {H : Hp} {Q : Addr → Hp → Prop} {E : XK} (hb : ¬(0 ≤ n ∧ n ≤ 60) → xBadSize a (.int n) E H) (k : 0 ≤ n → n ≤ 60 → ∀ (x l r f : Addr) (H' : Hp), H x = none → H l = none → H r = none → H f = none → LkS a H' x l r f n (s0 n) → Kp [] H H' → Q x H') :
    ∀ x dx, H x = none → H dx = none → dx ≠ x → sp_Links___init__ a (.ref x :: [.int n]) (upd (upd H dx (.own x)) x (.ins a.Links dx [])) (fun v H2 => v = .non ∧ Q x H2) E := by
  intro x dx hx hdx hne
  have kx : Kp [] H (upd (upd H dx (.own x)) x (.ins a.Links dx [])) := (Kp.refl.new hdx).own hx
  have fr : ∀ p, upd (upd H dx (.own x)) x (.ins a.Links dx []) p = none → H p = none := fun p h => kx.free h
  refine ⟨x, dx, n, rfl, upd_same, fun z d H' h1 h2 h3 => hb z d H' (fr d h1) h2 (kx.trans h3), fun n0 n1 l r f H1 hl hr hf hL k1 => ⟨rfl, ?_⟩⟩
  rw [rgI_l0, rgI_r0 n0] at hL
  have k0 : Kp [] H H1 := fun b o e _ => k1 b o (kx.at0 e) (by simp; intro z; subst z; rw [hx] at e; cases e)
  exact k n0 n1 x l r f H1 hx (fr l hl) (fr r hr) (fr f hf) hL k0
/-- one more operation of a log, on the object -/
theorem ap_step {a : AD} {H : Hp} {Q : VK} {E : XK} {x l r f : Addr} {n : Int} {s t : List Int × List Int × List Bool} {log : List Int} {i : Nat} {o : Int} (W : WFs n t) (hu : log[i]? = some o) (hok : okTo n t log i) (e : s = runS t (log.take i)) (hil : i ≤ log.length) (h : LkS a H x l r f n s)
    (hb : ¬IsOp n o → xBadOperation a (.int o) (.int (i : Int)) E H) (hi : IsOp n o → s.2.2.getD o.natAbs default = decide (o < 0) → xIllegal a (.int o) (.int (i : Int)) E H)
    (k : OkAt n s o → WFs n s → okTo n t log (i + 1) → ∀ H', LkS a H' x l r f n (stS s o) → Kp [l, r, f] H H' → Q .non H') : sp_Links_apply_at a [.ref x, .int o, .int (i : Int)] H Q E := by
  have Wi : WFs n s := e ▸ runS_wf W i hil hok
  have n0 := WF.n0 Wi
  have hR := WF.hR Wi
  have hL := WF.hL Wi
  refine ⟨x, l, r, f, n, o, i, _, _, _, rfl, h, hL, by rw [List.length_append, hR]; simp; omega, WF.hF Wi, hb, hi, fun hop hfl => ?_⟩
  have ho1 := hop.1
  have ho2 := hop.2
  have qa := WF.at Wi (v := o.natAbs) (by omega) ho2
  have eR : (s.1 ++ [n + 2]).getD o.natAbs default = s.1.getD o.natAbs default := by
    rw [List.getD_eq_getElem?_getD, List.getD_eq_getElem?_getD, List.getElem?_append_left (by omega)]
  refine ⟨by omega, by omega, by omega, by omega, fun H2 hY k2 => ?_⟩
  have ea := ap_app Wi (x := n + 2) hop
  rw [ea.1, ea.2] at hY
  refine k ⟨hop, hfl⟩ Wi (fun j p hj hp => ?_) H2 hY k2
  by_cases z : j < i
  · exact hok j p z hp
  · obtain rfl : j = i := by omega
    rw [hu] at hp
    cases hp
    rw [← e]
    exact ⟨hop, hfl⟩
/-- changes of a new object are none to the rest -/
theorem kp_new3 {H H1 H2 : Hp} {l r f : Addr} (k1 : Kp [] H H1) (hl : H l = none) (hr : H r = none) (hf : H f = none) (k2 : Kp [l, r, f] H1 H2) : Kp [] H H2 := fun b o e _ => k2 b o (k1.at0 e) (by
  intro z
  simp only [List.mem_cons, List.mem_nil_iff, or_false] at z
  rcases z with rfl | rfl | rfl
  · rw [hl] at e; cases e
  · rw [hr] at e; cases e
  · rw [hf] at e; cases e)

/-! ### logs -/
def sp__is_legal (a : AD) : Sp := fun vs H Q _ => ∃ (p : Addr) (fs : List Bool) (o : Int), vs = [.ref p, .int o] ∧ H p = some (.lst (fs.map V.bl)) ∧ o.natAbs < fs.length ∧ Q (.bl (!decide (fs.getD o.natAbs default = decide (o < 0)))) H
theorem sc__is_legal : FnScope ["flags", "operation", "is_unlink"] ["flags", "operation"] (defScope s__is_legal) := ⟨rfl, rfl, rfl, by decide +kernel, rfl, by decide +kernel, by decide +kernel⟩
theorem ok__is_legal {P : Program} {w : World} {K : PySem.W.Frag} {mg : Str → Option Value} {base : Heap} {a : AD} (T : Txt P K mg a) : FnA P w K mg base 2 a.f__is_legal ["flags", "operation"] (sp__is_legal a) := by
  obtain ⟨fd, F, b⟩ := T.F__is_legal
  refine FnA.of F sc__is_legal b (fun vs H Q E h => by first | (obtain ⟨rfl, _⟩ := h; rfl) | (obtain ⟨_, rfl, _⟩ := h; rfl) | (obtain ⟨_, _, rfl, _⟩ := h; rfl) | (obtain ⟨_, _, _, rfl, _⟩ := h; rfl) | (obtain ⟨_, _, _, _, rfl, _⟩ := h; rfl) | (obtain ⟨_, _, _, _, _, rfl, _⟩ := h; rfl) | (obtain ⟨_, _, _, _, _, _, rfl, _⟩ := h; rfl) | (obtain ⟨_, _, _, _, _, _, _, rfl, _⟩ := h; rfl) | (obtain ⟨_, _, _, _, _, _, _, _, rfl, _⟩ := h; rfl) | (obtain ⟨_, _, _, _, _, _, _, _, _, rfl, _⟩ := h; rfl) | (obtain ⟨_, _, _, _, _, _, _, _, _, _, rfl, _⟩ := h; rfl) | (obtain ⟨_, _, _, _, _, _, _, _, _, _, _, rfl, _⟩ := h; rfl) | (obtain ⟨_, _, _, _, _, _, _, _, _, _, _, _, rfl, _⟩ := h; rfl) | (obtain ⟨_, _, _, _, _, _, _, _, _, _, _, _, _, rfl, _⟩ := h; rfl) | (obtain ⟨_, _, _, _, _, _, _, _, _, _, _, _, _, _, rfl, _⟩ := h; rfl) | (obtain ⟨_, _, _, _, _, _, _, _, _, _, _, _, _, _, _, rfl, _⟩ := h; rfl) | (obtain ⟨_, _, _, _, _, _, _, _, _, _, _, _, _, _, _, _, rfl, _⟩ := h; rfl) | (obtain ⟨_, _, _, _, _, _, _, _, _, _, _, _, _, _, _, _, _, rfl, _⟩ := h; rfl) | (obtain ⟨_, _, _, _, _, _, _, _, _, _, _, _, _, _, _, _, _, _, rfl, _⟩ := h; rfl) | (obtain ⟨_, _, _, _, _, _, _, _, _, _, _, _, _, _, _, _, _, _, _, rfl, _⟩ := h; rfl) | (obtain ⟨_, _, _, _, _, _, _, _, _, _, _, _, _, _, _, _, _, _, _, _, rfl, _⟩ := h; rfl) | (obtain ⟨_, _, _, _, _, _, _, _, _, _, _, _, _, _, _, _, _, _, _, _, _, rfl, _⟩ := h; rfl) | (obtain ⟨_, _, _, _, _, _, _, _, _, _, _, _, _, _, _, _, _, _, _, _, _, _, rfl, _⟩ := h; rfl) | (obtain ⟨_, _, _, _, _, _, _, _, _, _, _, _, _, _, _, _, _, _, _, _, _, _, _, rfl, _⟩ := h; rfl)) (fun cdv A outer s H vs Q E hr tk pz h => ?_)
  have hu := hr.units
  have hrH := L2H.roomH_of hr
  obtain ⟨p, fs, o, rfl, hp, hl, k⟩ := h
  refine ⟨_, (pss_cons (ps_set (i := 2) sc__is_legal.nd rfl (Or.inl rfl) (pe_cmpR op_lt (pv 1) pe_int (nomark _)))
      (pss_one (ps_ret (pe_cmpR (o_ne hu) (pe_ix ix_seq (pv 0) (pe_callB (b_abs) rfl T.b_abs (by decide +kernel) (pa_cons (pv 1) pa_nil)) (fun _ _ => rfl)) (pv 2) (nomark _))))), ?_⟩
  show (_ : Ends → L2.St → Hp → Prop) _ [some _, some _, none] _
  try dsimp only [L2H.cxH, cxOf]
  walk_at "w"
  exact k
theorem getD_take {α : Type} [Inhabited α] {us : List α} {i k : Nat} (h : i < k) : (us.take k).getD i default = us.getD i default := by
  rw [List.getD_eq_getElem?_getD, List.getD_eq_getElem?_getD, List.getElem?_take_of_lt h]
def logSp (a : AD) (n : Int) (log : List Int) (H : Hp) (E : XK) (k : Prop) : Prop := (¬(0 ≤ n ∧ n ≤ 60) → xBadSize a (.int n) E H) ∧ (0 ≤ n → n ≤ 60 → playSp a n (s0 n) log H E k)
def sp_check_log (a : AD) : Sp := fun vs H Q E => ∃ (n : Int) (p : Addr) (log : List Int), vs = [.int n, .ref p] ∧ H p = some (.lst (log.map V.int)) ∧ log.length ≤ 100000 ∧ logSp a n log H E (∀ H', Kp [] H H' → Q .non H')
theorem sc_check_log : FnScope ["size", "log", "flags", "index", "operation"] ["size", "log"] (defScope s_check_log) := ⟨rfl, rfl, rfl, by decide +kernel, rfl, by decide +kernel, by decide +kernel⟩
theorem ok_check_log {P : Program} {w : World} {K : PySem.W.Frag} {mg : Str → Option Value} {base : Heap} {a : AD} (T : Txt P K mg a) (G_check_size : FnA P w K mg base 2 a.f_check_size ["size"] (sp_check_size a)) (G_check_operation : FnA P w K mg base 2 a.f_check_operation ["size", "operation", "index"] (sp_check_operation a)) (G__is_legal : FnA P w K mg base 2 a.f__is_legal ["flags", "operation"] (sp__is_legal a)) : FnA P w K mg base 3 a.f_check_log ["size", "log"] (sp_check_log a) := by
  obtain ⟨fd, F, b⟩ := T.F_check_log
  refine FnA.of F sc_check_log b (fun vs H Q E h => by first | (obtain ⟨rfl, _⟩ := h; rfl) | (obtain ⟨_, rfl, _⟩ := h; rfl) | (obtain ⟨_, _, rfl, _⟩ := h; rfl) | (obtain ⟨_, _, _, rfl, _⟩ := h; rfl) | (obtain ⟨_, _, _, _, rfl, _⟩ := h; rfl) | (obtain ⟨_, _, _, _, _, rfl, _⟩ := h; rfl) | (obtain ⟨_, _, _, _, _, _, rfl, _⟩ := h; rfl) | (obtain ⟨_, _, _, _, _, _, _, rfl, _⟩ := h; rfl) | (obtain ⟨_, _, _, _, _, _, _, _, rfl, _⟩ := h; rfl) | (obtain ⟨_, _, _, _, _, _, _, _, _, rfl, _⟩ := h; rfl) | (obtain ⟨_, _, _, _, _, _, _, _, _, _, rfl, _⟩ := h; rfl) | (obtain ⟨_, _, _, _, _, _, _, _, _, _, _, rfl, _⟩ := h; rfl) | (obtain ⟨_, _, _, _, _, _, _, _, _, _, _, _, rfl, _⟩ := h; rfl) | (obtain ⟨_, _, _, _, _, _, _, _, _, _, _, _, _, rfl, _⟩ := h; rfl) | (obtain ⟨_, _, _, _, _, _, _, _, _, _, _, _, _, _, rfl, _⟩ := h; rfl) | (obtain ⟨_, _, _, _, _, _, _, _, _, _, _, _, _, _, _, rfl, _⟩ := h; rfl) | (obtain ⟨_, _, _, _, _, _, _, _, _, _, _, _, _, _, _, _, rfl, _⟩ := h; rfl) | (obtain ⟨_, _, _, _, _, _, _, _, _, _, _, _, _, _, _, _, _, rfl, _⟩ := h; rfl) | (obtain ⟨_, _, _, _, _, _, _, _, _, _, _, _, _, _, _, _, _, _, rfl, _⟩ := h; rfl) | (obtain ⟨_, _, _, _, _, _, _, _, _, _, _, _, _, _, _, _, _, _, _, rfl, _⟩ := h; rfl) | (obtain ⟨_, _, _, _, _, _, _, _, _, _, _, _, _, _, _, _, _, _, _, _, rfl, _⟩ := h; rfl) | (obtain ⟨_, _, _, _, _, _, _, _, _, _, _, _, _, _, _, _, _, _, _, _, _, rfl, _⟩ := h; rfl) | (obtain ⟨_, _, _, _, _, _, _, _, _, _, _, _, _, _, _, _, _, _, _, _, _, _, rfl, _⟩ := h; rfl) | (obtain ⟨_, _, _, _, _, _, _, _, _, _, _, _, _, _, _, _, _, _, _, _, _, _, _, rfl, _⟩ := h; rfl)) (fun cdv A outer s H vs Q E hr tk pz h => ?_)
  have hu := hr.units
  have hrH := L2H.roomH_of hr
  obtain ⟨n, p, log, rfl, hp, hlen, hs, h⟩ := h
  refine ⟨_, (pss_cons (ps_expr (pe_callA G_check_size (Room.mono hr (by decide)) T.n_check_size tk (pa_cons (pv 0) pa_nil)))
      (pss_cons (ps_set (i := 2) sc_check_log.nd rfl (Or.inl rfl) (pe_op o_mul (pe_lst (pa_cons pe_bl pa_nil)) (pe_op o_add (pv 0) pe_int)))
      (pss_one (ps_for pz rfl (pi_enum rfl T.b_enumerate (pa_cons (pv 1) pa_nil)) (pg_tup (n := 2) rfl (pgs_cons (pg_name (i := 3) sc_check_log.nd rfl (Or.inl rfl)) (pgs_cons (pg_name (i := 4) sc_check_log.nd rfl (Or.inl rfl)) pgs_nil)))
      (pss_cons (ps_expr (pe_callA G_check_operation (Room.mono hr (by decide)) T.n_check_operation tk (pa_cons (pv 0) (pa_cons (pv 4) (pa_cons (pv 3) pa_nil)))))
      (pss_cons (ps_if (pt_not (pt_tru (pe_callA G__is_legal (Room.mono hr (by decide)) T.n__is_legal tk (pa_cons (pv 2) (pa_cons (pv 4) pa_nil))))) (pss_one (L2N.ps_raise rfl tk (Lk.pmk_own T.x_Illegal (List.cons_ne_nil _ _) hr T.c_Illegal (by exact (pa_cons (pv 4) (pa_cons (pv 3) pa_nil))) rfl))) pss_nil)
      (pss_one (ps_asg (pe_cmpR op_lt (pv 4) pe_int (nomark _)) (pg_sub (pv 2) (pe_callB (b_abs) rfl T.b_abs (by decide +kernel) (pa_cons (pv 4) pa_nil)) set_list))))))))), ?_⟩
  show (_ : Ends → L2.St → Hp → Prop) _ [some _, some _, none, none, none] _
  try dsimp only [L2H.cxH, cxOf]
  walk_at "w"
  refine ⟨n, rfl, hs, fun n0 n1 => ?_⟩
  obtain ⟨hb, hi, k⟩ := h n0 n1
  walk_at "w"
  intro q0 hq0
  walk_at "w"
  intro q hq
  have kq := (Kp.refl.new (ms := []) (o := .lst [.bl false]) hq0).new (o := .lst ((List.replicate (n + 1).toNat false).map V.bl)) hq
  have hqq : upd (upd H q0 (.lst [.bl false])) q (.lst ((List.replicate (n + 1).toNat false).map V.bl)) q = some (.lst (((runS (s0 n) (log.take 0)).2.2.take (n + 1).toNat).map V.bl)) := by
    rw [upd_same, List.take_zero]
    show some (HO.lst ((List.replicate (n + 1).toNat false).map V.bl)) = some (HO.lst (((List.replicate (n + 2).toNat false).take (n + 1).toNat).map V.bl))
    rw [List.take_replicate, Nat.min_eq_left (by omega)]
  have hqn : H q = none := upd_nil hq
  generalize upd (upd H q0 (.lst [.bl false])) q (.lst ((List.replicate (n + 1).toNat false).map V.bl)) = H1 at kq hqq ⊢
  walk_at "w"
  refine w_enumM (us := log) (f := V.int) (p := p) (kq.at0 hp) (fun i σ' H' => (∃ z1 z2, σ' = [some (.int n), some (.ref p), some (.ref q), z1, z2]) ∧ Kp [] H H' ∧ okTo n (s0 n) log i ∧ H' q = some (.lst (((runS (s0 n) (log.take i)).2.2.take (n + 1).toNat).map V.bl))) ⟨⟨_, _, rfl⟩, kq, fun j o hj => by omega, hqq⟩ (fun i σ' H' _ h => h.2.1.at0 hp) ?_ ?_
  · rintro i u T σ' H' hu ⟨⟨z1, z2, rfl⟩, hk, hok, hq2⟩ hT
    have hil : i < log.length := (List.getElem?_eq_some_iff.mp hu).1
    have Wi := runS_wf (wfs0 n0 n1) i (by omega) hok
    have hF := WF.hF Wi
    have hkT := hk.new (o := .tup [.int (i : Int), .int u]) hT
    have hqT : upd H' T (.tup [.int (i : Int), .int u]) q = some (.lst (((runS (s0 n) (log.take i)).2.2.take (n + 1).toNat).map V.bl)) := upd_new hT hq2
    generalize upd H' T (.tup [.int (i : Int), .int u]) = H2 at hkT hqT ⊢
    walk_at "w"
    refine ⟨n, u, i, rfl, fun z d H3 hd hd3 k3 => hb i u hu hok z d H3 (hkT.free hd) hd3 (hkT.trans k3), fun hop => ?_⟩
    have ho1 := hop.1
    have ho2 := hop.2
    walk_at "w"
    refine ⟨q, _, u, rfl, hqT, by rw [List.length_take]; omega, ?_⟩
    rw [getD_take (by omega)]
    by_cases c : (runS (s0 n) (log.take i)).2.2.getD u.natAbs default = decide (u < 0)
    · rw [show decide ((runS (s0 n) (log.take i)).2.2.getD u.natAbs default = decide (u < 0)) = true by simpa using c]
      walk_at "w"
      refine ⟨rfl, fun d hd => hi i u hu hok hop c d _ (hkT.free hd) upd_same (hkT.new hd)⟩
    · rw [show decide ((runS (s0 n) (log.take i)).2.2.getD u.natAbs default = decide (u < 0)) = false by simpa using c]
      have hln : ((runS (s0 n) (log.take i)).2.2.take (n + 1).toNat).length = (n + 1).toNat := by rw [List.length_take]; omega
      walk_at "w"
      refine ⟨⟨_, _, rfl⟩, hkT.own hqn, fun j o hj ho => ?_, ?_⟩
      · by_cases z : j < i
        · exact hok j o z ho
        · obtain rfl : j = i := by omega
          rw [hu] at ho
          cases ho
          exact ⟨hop, c⟩
      · rw [take_snoc hu, runS_snoc]
        show _ = some (HO.lst (((apF (runS (s0 n) (log.take i)).2.2 u).take (n + 1).toNat).map V.bl))
        unfold apF
        rw [List.take_set]
        exact upd_same
  · rintro σ' H' ⟨⟨z1, z2, rfl⟩, hk, hok, hq2⟩
    walk_at "w"
    exact k hok _ hk
/-! ### the moments -/
def mom (s : List Int × List Int × List Bool) (o : Int) : List V := [.int (o.natAbs : Int), .int (s.2.1.getD o.natAbs default), .int (s.1.getD o.natAbs default)]
def momF (t : List Int × List Int × List Bool) (log : List Int) (k : Nat) : List (List V) := (List.range k).map fun i => mom (runS t (log.take i)) (log.getD i default)
theorem momF_succ (t : List Int × List Int × List Bool) (log : List Int) (k : Nat) : momF t log (k + 1) = momF t log k ++ [mom (runS t (log.take k)) (log.getD k default)] := by
  unfold momF
  rw [List.range_succ, List.map_append]; rfl
theorem st_L {n : Int} {s : List Int × List Int × List Bool} (W : WFs n s) {o : Int} (h : IsOp n o) : (stS s o).2.1.getD o.natAbs default = s.2.1.getD o.natAbs default := by
  have h1 := h.1
  have h2 := h.2
  have q := WF.at W (v := o.natAbs) (by omega) h2
  show (apL s.2.1 s.1 o).getD o.natAbs default = _
  unfold apL
  rw [getD_set_ne (by omega)]
theorem st_R {n : Int} {s : List Int × List Int × List Bool} (W : WFs n s) {o : Int} (h : IsOp n o) : (stS s o).1.getD o.natAbs default = s.1.getD o.natAbs default := by
  have h1 := h.1
  have h2 := h.2
  have q := WF.at W (v := o.natAbs) (by omega) h2
  show (apR s.2.1 s.1 o).getD o.natAbs default = _
  unfold apR
  rw [getD_set_ne (by omega)]
def sp_moments (a : AD) : Sp := fun vs H Q E => ∃ (n : Int) (p : Addr) (log : List Int), vs = [.int n, .ref p] ∧ H p = some (.lst (log.map V.int)) ∧ log.length ≤ 100000 ∧ logSp a n log H E (∀ q xs H', H q = none → Kp [] H H' → H' q = some (.lst xs) → Tps H' xs (momF (s0 n) log log.length) → Q (.ref q) H')
/-- no fault in a legal log -/
theorem play_ok {a : AD} {n : Int} {log : List Int} {H : Hp} {E : XK} {k : Prop} (hok : okTo n (s0 n) log log.length) (h : k) : playSp a n (s0 n) log H E k :=
  ⟨fun i o ho _ z => absurd (hok i o (List.getElem?_eq_some_iff.mp ho).1 ho).1 z, fun i o ho _ _ z => absurd z (hok i o (List.getElem?_eq_some_iff.mp ho).1 ho).2, fun _ => h⟩
theorem log_ok {a : AD} {n : Int} {log : List Int} {H : Hp} {E : XK} {k : Prop} (n0 : 0 ≤ n) (n1 : n ≤ 60) (hok : okTo n (s0 n) log log.length) (h : k) : logSp a n log H E k :=
  ⟨fun z => absurd ⟨n0, n1⟩ z, fun _ _ => play_ok hok h⟩

def sp_replay (a : AD) : Sp := fun vs H Q E => ∃ (n : Int) (p : Addr) (log : List Int), vs = [.int n, .ref p] ∧ H p = some (.lst (log.map V.int)) ∧ log.length ≤ 100000 ∧ logSp a n log H E (∀ (x l r f : Addr) (H' : Hp), H x = none → H l = none → H r = none → H f = none → LkS a H' x l r f n (runS (s0 n) log) → Kp [] H H' → Q (.ref x) H')
theorem sc_replay : FnScope ["size", "log", "links", "index", "operation"] ["size", "log"] (defScope s_replay) := ⟨rfl, rfl, rfl, by decide +kernel, rfl, by decide +kernel, by decide +kernel⟩
theorem ok_replay {P : Program} {w : World} {K : PySem.W.Frag} {mg : Str → Option Value} {base : Heap} {a : AD} (T : Txt P K mg a) (G_Links___init__ : FnA P w K mg base 3 a.f_Links___init__ ["self", "size"] (sp_Links___init__ a)) (G_Links_apply_at : FnA P w K mg base 3 a.f_Links_apply_at ["self", "operation", "index"] (sp_Links_apply_at a)) : FnA P w K mg base 5 a.f_replay ["size", "log"] (sp_replay a) := by
  obtain ⟨fd, F, b⟩ := T.F_replay
  refine FnA.of F sc_replay b (fun vs H Q E h => by first | (obtain ⟨rfl, _⟩ := h; rfl) | (obtain ⟨_, rfl, _⟩ := h; rfl) | (obtain ⟨_, _, rfl, _⟩ := h; rfl) | (obtain ⟨_, _, _, rfl, _⟩ := h; rfl) | (obtain ⟨_, _, _, _, rfl, _⟩ := h; rfl) | (obtain ⟨_, _, _, _, _, rfl, _⟩ := h; rfl) | (obtain ⟨_, _, _, _, _, _, rfl, _⟩ := h; rfl) | (obtain ⟨_, _, _, _, _, _, _, rfl, _⟩ := h; rfl) | (obtain ⟨_, _, _, _, _, _, _, _, rfl, _⟩ := h; rfl) | (obtain ⟨_, _, _, _, _, _, _, _, _, rfl, _⟩ := h; rfl) | (obtain ⟨_, _, _, _, _, _, _, _, _, _, rfl, _⟩ := h; rfl) | (obtain ⟨_, _, _, _, _, _, _, _, _, _, _, rfl, _⟩ := h; rfl) | (obtain ⟨_, _, _, _, _, _, _, _, _, _, _, _, rfl, _⟩ := h; rfl) | (obtain ⟨_, _, _, _, _, _, _, _, _, _, _, _, _, rfl, _⟩ := h; rfl) | (obtain ⟨_, _, _, _, _, _, _, _, _, _, _, _, _, _, rfl, _⟩ := h; rfl) | (obtain ⟨_, _, _, _, _, _, _, _, _, _, _, _, _, _, _, rfl, _⟩ := h; rfl) | (obtain ⟨_, _, _, _, _, _, _, _, _, _, _, _, _, _, _, _, rfl, _⟩ := h; rfl) | (obtain ⟨_, _, _, _, _, _, _, _, _, _, _, _, _, _, _, _, _, rfl, _⟩ := h; rfl) | (obtain ⟨_, _, _, _, _, _, _, _, _, _, _, _, _, _, _, _, _, _, rfl, _⟩ := h; rfl) | (obtain ⟨_, _, _, _, _, _, _, _, _, _, _, _, _, _, _, _, _, _, _, rfl, _⟩ := h; rfl) | (obtain ⟨_, _, _, _, _, _, _, _, _, _, _, _, _, _, _, _, _, _, _, _, rfl, _⟩ := h; rfl) | (obtain ⟨_, _, _, _, _, _, _, _, _, _, _, _, _, _, _, _, _, _, _, _, _, rfl, _⟩ := h; rfl) | (obtain ⟨_, _, _, _, _, _, _, _, _, _, _, _, _, _, _, _, _, _, _, _, _, _, rfl, _⟩ := h; rfl) | (obtain ⟨_, _, _, _, _, _, _, _, _, _, _, _, _, _, _, _, _, _, _, _, _, _, _, rfl, _⟩ := h; rfl)) (fun cdv A outer s H vs Q E hr tk pz h => ?_)
  have hu := hr.units
  have hrH := L2H.roomH_of hr
  obtain ⟨n, p, log, rfl, hp, hlen, hs, h⟩ := h
  refine ⟨_, (pss_cons (ps_set (i := 2) sc_replay.nd rfl (Or.inl rfl) (pe_makeS G_Links___init__ T.mk_Links (Room.mono hr (by decide)) T.c_Links tk (pa_cons (pv 0) pa_nil)))
      (pss_cons (ps_for pz rfl (pi_enum rfl T.b_enumerate (pa_cons (pv 1) pa_nil)) (pg_tup (n := 2) rfl (pgs_cons (pg_name (i := 3) sc_replay.nd rfl (Or.inl rfl)) (pgs_cons (pg_name (i := 4) sc_replay.nd rfl (Or.inl rfl)) pgs_nil)))
      (pss_one (ps_expr (pe_methS (pl := _) G_Links_apply_at (Room.mono hr (by decide)) T.cl_Links T.me_Links_apply_at tk (pv 2) (pa_cons (pv 4) (pa_cons (pv 3) pa_nil))))))
      (pss_one (ps_ret (pv 2))))), ?_⟩
  show (_ : Ends → L2.St → Hp → Prop) _ [some _, some _, none, none, none] _
  try dsimp only [L2H.cxH, cxOf]
  walk_at "w"
  refine mk_new hs fun n0 n1 x l r f H1 hx hl hr hf hL k1 => ?_
  obtain ⟨hb, hi, k⟩ := h n0 n1
  have W0 := wfs0 n0 n1
  walk_at "w"
  refine w_enumM (us := log) (f := V.int) (p := p) (k1.at0 hp) (fun i σ' H' => (∃ z1 z2, σ' = [some (.int n), some (.ref p), some (.ref x), z1, z2]) ∧ Kp [] H H' ∧ okTo n (s0 n) log i ∧ LkS a H' x l r f n (runS (s0 n) (log.take i))) ⟨⟨_, _, rfl⟩, k1, fun j o hj => by omega, hL⟩ (fun i σ' H' _ h => h.2.1.at0 hp) ?_ ?_
  · rintro i u T σ' H' hu ⟨⟨z1, z2, rfl⟩, hk, hok, hL2⟩ hT
    have hil : i < log.length := (List.getElem?_eq_some_iff.mp hu).1
    have hkT := hk.new (o := .tup [.int (i : Int), .int u]) hT
    have hLT := hL2.kp0 (Kp.refl.new (o := .tup [.int (i : Int), .int u]) hT)
    generalize upd H' T (.tup [.int (i : Int), .int u]) = H3 at hkT hLT ⊢
    have hx3 := hLT.1.choose_spec
    walk_at "w"
    refine ap_step W0 hu hok rfl (by omega) hLT (fun z d H2 hd hd2 k2 => hb i u hu hok z d H2 (hkT.free hd) hd2 (hkT.trans k2)) (fun z1 z2 d H2 hd hd2 k2 => hi i u hu hok z1 z2 d H2 (hkT.free hd) hd2 (hkT.trans k2)) (fun hO Wi hok' H4 hL4 k4 => ?_)
    have k04 := kp_new3 hkT hl hr hf k4
    walk_at "w"
    refine ⟨⟨_, _, rfl⟩, k04, hok', ?_⟩
    rw [take_snoc hu, runS_snoc]
    exact hL4
  · rintro σ' H' ⟨⟨z1, z2, rfl⟩, hk, hok, hL2⟩
    rw [List.take_length] at hL2
    walk_at "w"
    exact k hok x l r f H' hx hl hr hf hL2 hk

/-! ### sound, whole -/
def sp_Links_outs (a : AD) : Sp := fun vs H Q E => ∃ (x l r f : Addr) (n : Int) (s : List Int × List Int × List Bool), vs = [.ref x] ∧ LkS a H x l r f n s ∧ WFs n s ∧ ∀ p H', H p = none → Kp [] H H' → H' p = some (.lst ((outL n s.2.2).map V.int)) → Q (.ref p) H'
theorem sc_Links_outs : FnScope ["self", "node"] ["self"] (defScope s_Links_outs) := ⟨rfl, rfl, rfl, by decide +kernel, rfl, by decide +kernel, by decide +kernel⟩
theorem ok_Links_outs {P : Program} {w : World} {K : PySem.W.Frag} {mg : Str → Option Value} {base : Heap} {a : AD} (T : Txt P K mg a) : FnA P w K mg base 2 a.f_Links_outs ["self"] (sp_Links_outs a) := by
  obtain ⟨fd, F, b⟩ := T.F_Links_outs
  refine FnA.of F sc_Links_outs b (fun vs H Q E h => by first | (obtain ⟨rfl, _⟩ := h; rfl) | (obtain ⟨_, rfl, _⟩ := h; rfl) | (obtain ⟨_, _, rfl, _⟩ := h; rfl) | (obtain ⟨_, _, _, rfl, _⟩ := h; rfl) | (obtain ⟨_, _, _, _, rfl, _⟩ := h; rfl) | (obtain ⟨_, _, _, _, _, rfl, _⟩ := h; rfl) | (obtain ⟨_, _, _, _, _, _, rfl, _⟩ := h; rfl) | (obtain ⟨_, _, _, _, _, _, _, rfl, _⟩ := h; rfl) | (obtain ⟨_, _, _, _, _, _, _, _, rfl, _⟩ := h; rfl) | (obtain ⟨_, _, _, _, _, _, _, _, _, rfl, _⟩ := h; rfl) | (obtain ⟨_, _, _, _, _, _, _, _, _, _, rfl, _⟩ := h; rfl) | (obtain ⟨_, _, _, _, _, _, _, _, _, _, _, rfl, _⟩ := h; rfl) | (obtain ⟨_, _, _, _, _, _, _, _, _, _, _, _, rfl, _⟩ := h; rfl) | (obtain ⟨_, _, _, _, _, _, _, _, _, _, _, _, _, rfl, _⟩ := h; rfl) | (obtain ⟨_, _, _, _, _, _, _, _, _, _, _, _, _, _, rfl, _⟩ := h; rfl) | (obtain ⟨_, _, _, _, _, _, _, _, _, _, _, _, _, _, _, rfl, _⟩ := h; rfl) | (obtain ⟨_, _, _, _, _, _, _, _, _, _, _, _, _, _, _, _, rfl, _⟩ := h; rfl) | (obtain ⟨_, _, _, _, _, _, _, _, _, _, _, _, _, _, _, _, _, rfl, _⟩ := h; rfl) | (obtain ⟨_, _, _, _, _, _, _, _, _, _, _, _, _, _, _, _, _, _, rfl, _⟩ := h; rfl) | (obtain ⟨_, _, _, _, _, _, _, _, _, _, _, _, _, _, _, _, _, _, _, rfl, _⟩ := h; rfl) | (obtain ⟨_, _, _, _, _, _, _, _, _, _, _, _, _, _, _, _, _, _, _, _, rfl, _⟩ := h; rfl) | (obtain ⟨_, _, _, _, _, _, _, _, _, _, _, _, _, _, _, _, _, _, _, _, _, rfl, _⟩ := h; rfl) | (obtain ⟨_, _, _, _, _, _, _, _, _, _, _, _, _, _, _, _, _, _, _, _, _, _, rfl, _⟩ := h; rfl) | (obtain ⟨_, _, _, _, _, _, _, _, _, _, _, _, _, _, _, _, _, _, _, _, _, _, _, rfl, _⟩ := h; rfl)) (fun cdv A outer s H vs Q E hr tk pz h => ?_)
  have hu := hr.units
  have hrH := L2H.roomH_of hr
  obtain ⟨x, l, r, f, n, s, rfl, hL, W, k⟩ := h
  refine ⟨_, (pss_one (ps_ret (pe_lc (own := [("node", 1)]) (g := (gName 1)) rfl sc_Links_outs.nd (pi_range2 rfl T.b_range (pa_cons pe_int (pa_cons (pe_op o_add (pe_fld (pv 0) rfl) pe_int) pa_nil))) (blkOk_by (own := [("node", 1)]) (N := ["self", "node"]) (sc := defScope s_Links_outs) (by decide +kernel)) (fun _ _ _ _ _ => (pg_name (i := 1) sc_Links_outs.nd rfl (Or.inl rfl))) (fun _ _ _ _ _ => (pts_one (show PT _ _ (cTru K _) from (pt_tru (pe_ix (show IxR _ (rIx K) from ix_seq) (show PE _ _ (tFld K _ _) from (pe_fld (pv 0) rfl)) (pv 1) (fun _ _ => rfl)))))) (fun _ _ _ _ _ => (pv 1))))), ?_⟩
  show (_ : Ends → L2.St → Hp → Prop) _ [some _, none] _
  try dsimp only [L2H.cxH, cxOf]
  have n0 := WF.n0 W
  have n1 := WF.n1 W
  have hF := WF.hF W
  obtain ⟨⟨dx, hx⟩, hl, hr', hf, _⟩ := id hL
  walk_at "w"
  refine w_lcR2 (f' := V.int) (fun i : Nat => if s.2.2.getD (i + 1) default = true then some (1 + (i : Int)) else none) (lo := 1) (n := n + 1) (by omega) (by omega) (by omega) (by omega) (by rw [sizeLine_eq]; omega) ?_ ?_
  · intro D i acc H' hD hi hk hA hlen
    have hx5 := hk.at0 hx
    have hf5 := hk.at0 hf
    walk_at "w"
    refine ⟨rfl, ?_⟩
    walk_at "w"
    rw [show (1 + (i : Int)).toNat = i + 1 by omega]
    refine w_iteb (fun c => ?_) (fun c => ?_)
    · walk_at "w"
      exact w_keep hk hA hlen hD (by rw [if_pos c])
    · walk_at "w"
      exact w_drop hk hA (by rw [if_neg (by rw [c]; exact Bool.false_ne_true)])
  · intro D H' hD hk hA
    rw [show (n + 1 - 1).toNat = n.toNat by omega] at hA
    exact k D H' hD hk hA
theorem outL_nil {n : Int} {F : List Bool} : outL n F = [] ↔ ∀ v : Nat, 1 ≤ v → (v : Int) ≤ n → F.getD v default = false := by
  constructor
  · intro h v v1 v2
    cases c : F.getD v default with
    | false => rfl
    | true =>
      have : (v : Int) ∈ outL n F := by
        unfold outL
        rw [List.mem_filterMap]
        refine ⟨v - 1, List.mem_range.mpr (by omega), ?_⟩
        rw [show v - 1 + 1 = v by omega, if_pos c]
        congr 1; omega
      rw [h] at this
      exact absurd this List.not_mem_nil
  · intro h
    unfold outL
    rw [List.filterMap_eq_nil_iff]
    intro i hi
    have hi := List.mem_range.mp hi
    rw [if_neg (by rw [h (i + 1) (by omega) (by omega)]; exact Bool.false_ne_true)]
theorem state_joined {R L : List Int} {g : Int} : stateOf R L g = ("joined" : Str) ↔ R.getD g.toNat default = g + 1 ∧ L.getD (g + 1).toNat default = g := by
  unfold stateOf
  by_cases c1 : R.getD g.toNat default = g + 1
  · rw [if_pos c1]
    by_cases c2 : L.getD (g + 1).toNat default = g
    · rw [if_pos c2]; exact ⟨fun _ => ⟨c1, c2⟩, fun _ => rfl⟩
    · rw [if_neg c2]; exact ⟨fun h => absurd h (by decide), fun h => absurd h.2 c2⟩
  · rw [if_neg c1]
    by_cases c2 : L.getD (g + 1).toNat default = g
    · rw [if_pos c2]; exact ⟨fun h => absurd h (by decide), fun h => absurd h.1 c1⟩
    · rw [if_neg c2]; exact ⟨fun h => absurd h (by decide), fun h => absurd h.1 c1⟩

/-! ### once-only logs -/
/-- the first unlink of a node that was unlinked before -/
def TwiceAt (log : List Int) (i : Nat) : Prop := ∃ o, log[i]? = some o ∧ o < 0 ∧ o ∈ log.take i ∧ ∀ (j : Nat) (p : Int), j < i → log[j]? = some p → p < 0 → p ∉ log.take j
def onceL (log : List Int) (k : Nat) : Prop := ∀ (j : Nat) (p : Int), j < k → log[j]? = some p → p < 0 → p ∉ log.take j
/-- what the checks ask: legal from the whole list, once-only -/
def onceSp (a : AD) (n : Int) (log : List Int) (H : Hp) (E : XK) (k : Prop) : Prop :=
  logSp a n log H E ((∀ i, TwiceAt log i → xNotOnce a (.int (i : Int)) E H) ∧ (onceL log log.length → k))
theorem mem_take_snoc {log : List Int} {i : Nat} {u : Int} (hu : log[i]? = some u) {x : Int} : x ∈ log.take (i + 1) ↔ x ∈ log.take i ∨ x = u := by
  rw [take_snoc hu, List.mem_append, List.mem_singleton]
theorem mem_lt_take {log : List Int} {i : Nat} {x : Int} : x ∈ log.take i ↔ ∃ j, j < i ∧ log[j]? = some x := by
  rw [List.mem_take_iff_getElem]
  constructor
  · rintro ⟨j, h, e⟩
    exact ⟨j, by omega, by rw [List.getElem?_eq_getElem (by omega), e]⟩
  · rintro ⟨j, h, e⟩
    obtain ⟨h2, e2⟩ := List.getElem?_eq_some_iff.mp e
    exact ⟨j, by omega, e2⟩
def sp_check_once (a : AD) : Sp := fun vs H Q E => ∃ (n : Int) (p : Addr) (log : List Int), vs = [.int n, .ref p] ∧ H p = some (.lst (log.map V.int)) ∧ log.length ≤ 100000 ∧ onceSp a n log H E (∀ H', Kp [] H H' → Q .non H')
theorem sc_check_once : FnScope ["size", "log", "unlinked", "index", "operation"] ["size", "log"] (defScope s_check_once) := ⟨rfl, rfl, rfl, by decide +kernel, rfl, by decide +kernel, by decide +kernel⟩
theorem ok_check_once {P : Program} {w : World} {K : PySem.W.Frag} {mg : Str → Option Value} {base : Heap} {a : AD} (T : Txt P K mg a) (G_check_size : FnA P w K mg base 2 a.f_check_size ["size"] (sp_check_size a)) (G_check_log : FnA P w K mg base 3 a.f_check_log ["size", "log"] (sp_check_log a)) : FnA P w K mg base 4 a.f_check_once ["size", "log"] (sp_check_once a) := by
  obtain ⟨fd, F, b⟩ := T.F_check_once
  refine FnA.of F sc_check_once b (fun vs H Q E h => by first | (obtain ⟨rfl, _⟩ := h; rfl) | (obtain ⟨_, rfl, _⟩ := h; rfl) | (obtain ⟨_, _, rfl, _⟩ := h; rfl) | (obtain ⟨_, _, _, rfl, _⟩ := h; rfl) | (obtain ⟨_, _, _, _, rfl, _⟩ := h; rfl) | (obtain ⟨_, _, _, _, _, rfl, _⟩ := h; rfl) | (obtain ⟨_, _, _, _, _, _, rfl, _⟩ := h; rfl) | (obtain ⟨_, _, _, _, _, _, _, rfl, _⟩ := h; rfl) | (obtain ⟨_, _, _, _, _, _, _, _, rfl, _⟩ := h; rfl) | (obtain ⟨_, _, _, _, _, _, _, _, _, rfl, _⟩ := h; rfl) | (obtain ⟨_, _, _, _, _, _, _, _, _, _, rfl, _⟩ := h; rfl) | (obtain ⟨_, _, _, _, _, _, _, _, _, _, _, rfl, _⟩ := h; rfl) | (obtain ⟨_, _, _, _, _, _, _, _, _, _, _, _, rfl, _⟩ := h; rfl) | (obtain ⟨_, _, _, _, _, _, _, _, _, _, _, _, _, rfl, _⟩ := h; rfl) | (obtain ⟨_, _, _, _, _, _, _, _, _, _, _, _, _, _, rfl, _⟩ := h; rfl) | (obtain ⟨_, _, _, _, _, _, _, _, _, _, _, _, _, _, _, rfl, _⟩ := h; rfl) | (obtain ⟨_, _, _, _, _, _, _, _, _, _, _, _, _, _, _, _, rfl, _⟩ := h; rfl) | (obtain ⟨_, _, _, _, _, _, _, _, _, _, _, _, _, _, _, _, _, rfl, _⟩ := h; rfl) | (obtain ⟨_, _, _, _, _, _, _, _, _, _, _, _, _, _, _, _, _, _, rfl, _⟩ := h; rfl) | (obtain ⟨_, _, _, _, _, _, _, _, _, _, _, _, _, _, _, _, _, _, _, rfl, _⟩ := h; rfl) | (obtain ⟨_, _, _, _, _, _, _, _, _, _, _, _, _, _, _, _, _, _, _, _, rfl, _⟩ := h; rfl) | (obtain ⟨_, _, _, _, _, _, _, _, _, _, _, _, _, _, _, _, _, _, _, _, _, rfl, _⟩ := h; rfl) | (obtain ⟨_, _, _, _, _, _, _, _, _, _, _, _, _, _, _, _, _, _, _, _, _, _, rfl, _⟩ := h; rfl) | (obtain ⟨_, _, _, _, _, _, _, _, _, _, _, _, _, _, _, _, _, _, _, _, _, _, _, rfl, _⟩ := h; rfl)) (fun cdv A outer s H vs Q E hr tk pz h => ?_)
  have hu := hr.units
  have hrH := L2H.roomH_of hr
  obtain ⟨n, p, log, rfl, hp, hlen, hs, h⟩ := h
  refine ⟨_, (pss_cons (ps_expr (pe_callA G_check_size (Room.mono hr (by decide)) T.n_check_size tk (pa_cons (pv 0) pa_nil)))
      (pss_cons (ps_expr (pe_callA G_check_log (Room.mono hr (by decide)) T.n_check_log tk (pa_cons (pv 0) (pa_cons (pv 1) pa_nil))))
      (pss_cons (ps_set (i := 2) sc_check_once.nd rfl (Or.inl rfl) pe_dnewK)
      (pss_one (ps_for pz rfl (pi_enum rfl T.b_enumerate (pa_cons (pv 1) pa_nil)) (pg_tup (n := 2) rfl (pgs_cons (pg_name (i := 3) sc_check_once.nd rfl (Or.inl rfl)) (pgs_cons (pg_name (i := 4) sc_check_once.nd rfl (Or.inl rfl)) pgs_nil)))
      (pss_one (ps_if (pt_cmpA op_lt (pv 4) pe_int (nomark _)) (pss_cons (ps_if (pt_cmp (pc_din (hu1 hu) (pv 4) (pv 2))) (pss_one (L2N.ps_raise rfl tk (Lk.pmk_own T.x_NotOnce (List.cons_ne_nil _ _) hr T.c_NotOnce (by exact (pa_cons (pv 3) pa_nil)) rfl))) pss_nil)
      (pss_one (ps_dput (hu1 hu) (pv 2) (pv 4) pe_bl rfl))) pss_nil))))))), ?_⟩
  show (_ : Ends → L2.St → Hp → Prop) _ [some _, some _, none, none, none] _
  try dsimp only [L2H.cxH, cxOf]
  walk_at "w"
  refine ⟨n, rfl, hs, fun n0 n1 => ?_⟩
  obtain ⟨hb, hi, hk⟩ := h n0 n1
  walk_at "w"
  refine ⟨n, p, log, rfl, hp, hlen, hs, fun _ _ => ⟨hb, hi, fun hok H1 k1 => ?_⟩⟩
  obtain ⟨ht, k⟩ := hk hok
  walk_at "w"
  intro d hd
  have hd0 := k1.free hd
  have kd := k1.new (o := .dK []) hd
  have hd1 : upd H1 d (.dK []) d = some (.dK (dkS (.bl true) [])) := upd_same
  generalize upd H1 d (.dK []) = H2 at kd hd1 ⊢
  walk_at "w"
  refine w_enumM (us := log) (f := V.int) (p := p) (kd.at0 hp) (fun i σ' H' => ∃ z3 z4 us, σ' = [some (.int n), some (.ref p), some (.ref d), z3, z4] ∧ Kp [] H H' ∧ H' d = some (.dK (dkS (.bl true) us)) ∧ us.length ≤ i ∧ (∀ u, u ∈ us ↔ u < 0 ∧ u ∈ log.take i) ∧ onceL log i) ⟨_, _, [], rfl, kd, hd1, Nat.le_refl _, fun u => by simp, fun j p hj => by omega⟩ (fun i σ' H' _ h => by obtain ⟨_, _, _, _, h, _⟩ := h; exact h.at0 hp) ?_ ?_
  · rintro i u T σ' H' hu ⟨z3, z4, us, rfl, k3, hd3, hul, hus, hon⟩ hT
    have hil : i < log.length := (List.getElem?_eq_some_iff.mp hu).1
    have kT := k3.new (o := .tup [.int (i : Int), .int u]) hT
    have hdT : upd H' T (.tup [.int (i : Int), .int u]) d = some (.dK (dkS (.bl true) us)) := upd_new hT hd3
    generalize upd H' T (.tup [.int (i : Int), .int u]) = H4 at kT hdT ⊢
    have more : (u < 0 → u ∉ log.take i) → onceL log (i + 1) := fun h j q hj hq hq0 => by
      by_cases z : j < i
      · exact hon j q z hq hq0
      · obtain rfl : j = i := by omega
        rw [hu] at hq
        cases hq
        exact h hq0
    walk_at "w"
    refine w_ite (fun c => ?_) (fun c => ?_)
    · walk_at "w"
      refine w_ite (fun c2 => ?_) (fun c2 => ?_)
      · walk_at "w"
        have hm := (hus u).mp c2
        refine ⟨rfl, fun x hx => ht i ⟨u, hu, c, hm.2, hon⟩ x _ (kT.free hx) upd_same (kT.new hx)⟩
      · have hnm : u ∉ log.take i := fun z => c2 ((hus u).mpr ⟨c, z⟩)
        walk_at "w"
        refine ⟨_, _, insU us u, rfl, kT.own hd0, upd_same, by have := insU_len us u; omega, fun x => ?_, more fun _ => hnm⟩
        rw [insU_mem, hus, mem_take_snoc hu]
        constructor
        · rintro (⟨h1, h2⟩ | rfl)
          · exact ⟨h1, .inl h2⟩
          · exact ⟨c, .inr rfl⟩
        · rintro ⟨h1, h2 | rfl⟩
          · exact .inl ⟨h1, h2⟩
          · exact .inr rfl
    · walk_at "w"
      refine ⟨_, _, us, rfl, kT, hdT, by omega, fun x => ?_, more fun z => absurd z c⟩
      rw [hus, mem_take_snoc hu]
      constructor
      · rintro ⟨h1, h2⟩
        exact ⟨h1, .inl h2⟩
      · rintro ⟨h1, h2 | rfl⟩
        · exact ⟨h1, h2⟩
        · exact absurd h1 c
  · rintro σ' H' ⟨z3, z4, us, rfl, k3, hd3, hul, hus, hon⟩
    walk_at "w"
    exact k hon H' k3
/-- the gaps of the late writes of a node; bs: the nodes that are back -/
def lateF (s : List Int × List Int × List Bool) (bk : Int → Bool) (v : Int) : List Int :=
  (if s.2.1.getD v.toNat default ≠ v - 1 ∧ bk (s.2.1.getD v.toNat default + 1) = true then [s.2.1.getD v.toNat default] else []) ++
  (if s.1.getD v.toNat default ≠ v + 1 ∧ bk (s.1.getD v.toNat default - 1) = true then [s.1.getD v.toNat default - 1] else [])
theorem lateF_len (s : List Int × List Int × List Bool) (bk : Int → Bool) (v : Int) : (lateF s bk v).length ≤ 2 := by
  unfold lateF
  rw [List.length_append]
  have : ∀ (c : Prop) [Decidable c] (x : Int), (if c then [x] else []).length ≤ 1 := by intro c _ x; split <;> simp
  have h1 := this (s.2.1.getD v.toNat default ≠ v - 1 ∧ bk (s.2.1.getD v.toNat default + 1) = true) (s.2.1.getD v.toNat default)
  have h2 := this (s.1.getD v.toNat default ≠ v + 1 ∧ bk (s.1.getD v.toNat default - 1) = true) (s.1.getD v.toNat default - 1)
  omega
def sp_late_gaps (a : AD) : Sp := fun vs H Q E => ∃ (x l r f d : Addr) (n v : Int) (s : List Int × List Int × List Bool) (bs : List Int), vs = [.ref x, .ref d, .int v] ∧ LkS a H x l r f n s ∧ WFs n s ∧ 1 ≤ v ∧ v ≤ n ∧ H d = some (.dK (dkS (.bl true) bs)) ∧ ∀ p H', H p = none → Kp [] H H' → H' p = some (.lst ((lateF s (fun u => decide (u ∈ bs)) v).map V.int)) → Q (.ref p) H'
theorem sc_late_gaps : FnScope ["links", "back", "node", "low", "high", "gaps"] ["links", "back", "node"] (defScope s_late_gaps) := ⟨rfl, rfl, rfl, by decide +kernel, rfl, by decide +kernel, by decide +kernel⟩
theorem ok_late_gaps {P : Program} {w : World} {K : PySem.W.Frag} {mg : Str → Option Value} {base : Heap} {a : AD} (T : Txt P K mg a) (G_Links_left : FnA P w K mg base 2 a.f_Links_left ["self", "node"] (sp_Links_left a)) (G_Links_right : FnA P w K mg base 2 a.f_Links_right ["self", "node"] (sp_Links_right a)) : FnA P w K mg base 3 a.f_late_gaps ["links", "back", "node"] (sp_late_gaps a) := by
  obtain ⟨fd, F, b⟩ := T.F_late_gaps
  refine FnA.of F sc_late_gaps b (fun vs H Q E h => by first | (obtain ⟨rfl, _⟩ := h; rfl) | (obtain ⟨_, rfl, _⟩ := h; rfl) | (obtain ⟨_, _, rfl, _⟩ := h; rfl) | (obtain ⟨_, _, _, rfl, _⟩ := h; rfl) | (obtain ⟨_, _, _, _, rfl, _⟩ := h; rfl) | (obtain ⟨_, _, _, _, _, rfl, _⟩ := h; rfl) | (obtain ⟨_, _, _, _, _, _, rfl, _⟩ := h; rfl) | (obtain ⟨_, _, _, _, _, _, _, rfl, _⟩ := h; rfl) | (obtain ⟨_, _, _, _, _, _, _, _, rfl, _⟩ := h; rfl) | (obtain ⟨_, _, _, _, _, _, _, _, _, rfl, _⟩ := h; rfl) | (obtain ⟨_, _, _, _, _, _, _, _, _, _, rfl, _⟩ := h; rfl) | (obtain ⟨_, _, _, _, _, _, _, _, _, _, _, rfl, _⟩ := h; rfl) | (obtain ⟨_, _, _, _, _, _, _, _, _, _, _, _, rfl, _⟩ := h; rfl) | (obtain ⟨_, _, _, _, _, _, _, _, _, _, _, _, _, rfl, _⟩ := h; rfl) | (obtain ⟨_, _, _, _, _, _, _, _, _, _, _, _, _, _, rfl, _⟩ := h; rfl) | (obtain ⟨_, _, _, _, _, _, _, _, _, _, _, _, _, _, _, rfl, _⟩ := h; rfl) | (obtain ⟨_, _, _, _, _, _, _, _, _, _, _, _, _, _, _, _, rfl, _⟩ := h; rfl) | (obtain ⟨_, _, _, _, _, _, _, _, _, _, _, _, _, _, _, _, _, rfl, _⟩ := h; rfl) | (obtain ⟨_, _, _, _, _, _, _, _, _, _, _, _, _, _, _, _, _, _, rfl, _⟩ := h; rfl) | (obtain ⟨_, _, _, _, _, _, _, _, _, _, _, _, _, _, _, _, _, _, _, rfl, _⟩ := h; rfl) | (obtain ⟨_, _, _, _, _, _, _, _, _, _, _, _, _, _, _, _, _, _, _, _, rfl, _⟩ := h; rfl) | (obtain ⟨_, _, _, _, _, _, _, _, _, _, _, _, _, _, _, _, _, _, _, _, _, rfl, _⟩ := h; rfl) | (obtain ⟨_, _, _, _, _, _, _, _, _, _, _, _, _, _, _, _, _, _, _, _, _, _, rfl, _⟩ := h; rfl) | (obtain ⟨_, _, _, _, _, _, _, _, _, _, _, _, _, _, _, _, _, _, _, _, _, _, _, rfl, _⟩ := h; rfl)) (fun cdv A outer s H vs Q E hr tk pz h => ?_)
  have hu := hr.units
  have hrH := L2H.roomH_of hr
  obtain ⟨x, l, r, f, d, n, v, s, bs, rfl, hL, W, v1, v2, hd, k⟩ := h
  refine ⟨_, (pss_cons (ps_set (i := 3) sc_late_gaps.nd rfl (Or.inl rfl) (pe_methS (pl := _) G_Links_left (Room.mono hr (by decide)) T.cl_Links T.me_Links_left tk (pv 0) (pa_cons (pv 2) pa_nil)))
      (pss_cons (ps_set (i := 4) sc_late_gaps.nd rfl (Or.inl rfl) (pe_methS (pl := _) G_Links_right (Room.mono hr (by decide)) T.cl_Links T.me_Links_right tk (pv 0) (pa_cons (pv 2) pa_nil)))
      (pss_cons (ps_set (i := 5) sc_late_gaps.nd rfl (Or.inl rfl) (pe_lst pa_nil))
      (pss_cut (ps_if (PW.pt (pw_and (pt_cmpA (o_ne hu) (pv 3) (pe_op op_sub (pv 2) pe_int) (nomark _)) (pw_and1 (pt_cmp (pc_din (hu1 hu) (pe_op o_add (pv 3) pe_int) (pv 1)))))) (pss_one (ps_expr (pe_bm PySem.F.plainAttrs_list PySem.F.slot_list_append PySem.F.type_list_append mt_append (pv 5) (pa_cons (pv 3) pa_nil)))) pss_nil)
      (pss_cons (ps_if (PW.pt (pw_and (pt_cmpA (o_ne hu) (pv 4) (pe_op o_add (pv 2) pe_int) (nomark _)) (pw_and1 (pt_cmp (pc_din (hu1 hu) (pe_op op_sub (pv 4) pe_int) (pv 1)))))) (pss_one (ps_expr (pe_bm PySem.F.plainAttrs_list PySem.F.slot_list_append PySem.F.type_list_append mt_append (pv 5) (pa_cons (pe_op op_sub (pv 4) pe_int) pa_nil)))) pss_nil)
      (pss_one (ps_ret (pv 5)))))))), ?_⟩
  show (_ : Ends → L2.St → Hp → Prop) _ [some _, some _, some _, none, none, none] _
  try dsimp only [L2H.cxH, cxOf]
  have hO := hL.obj W
  have hx := hL.1.choose_spec
  have q := WF.at W (v := v.toNat) (by omega) (by omega)
  rw [show ((v.toNat : Nat) : Int) = v by omega] at q
  have eR : (s.1 ++ [n + 2]).getD v.toNat default = s.1.getD v.toNat default := gd_app (by rw [WF.hR W]; omega)
  unfold lateF at k
  generalize hlo : s.2.1.getD v.toNat default = lo at q k
  generalize hhi : s.1.getD v.toNat default = hi at q eR k
  walk_at "w"
  refine ⟨x, l, r, f, n, v, _, _, _, rfl, hL, hO.2.2.2.1, fun z => absurd ⟨by omega, by omega⟩ z, fun _ _ => ?_⟩
  rw [hlo]
  walk_at "w"
  refine ⟨x, l, r, f, n, v, _, _, _, rfl, hL, hO.2.2.2.2.1, fun z => absurd ⟨by omega, by omega⟩ z, fun _ _ => ?_⟩
  rw [eR]
  walk_at "w"
  intro g hg
  have kg := Kp.refl.new (ms := []) (o := .lst []) hg
  have hg1 : upd H g (.lst []) g = some (.lst (([] : List Int).map V.int)) := upd_same
  have hd1 := kg.at0 hd
  generalize upd H g (.lst []) = H1 at kg hg1 hd1 ⊢
  walk_at "w"
  refine s_cut (fun σ' H' => σ' = [some (.ref x), some (.ref d), some (.int v), some (.int lo), some (.int hi), some (.ref g)] ∧ Kp [] H H' ∧ H' g = some (.lst ((if lo ≠ v - 1 ∧ decide (lo + 1 ∈ bs) = true then [lo] else []).map V.int))) ?_ ?_
  · walk_at "w"
    refine w_iteN (fun c1 => ?_) (fun c1 => ?_)
    · walk_at "w"
      refine w_ite (fun c2 => ?_) (fun c2 => ?_)
      · walk_at "w"
        rw [if_pos ⟨c1, decide_eq_true c2⟩]
        exact ⟨rfl, kg.own hg, upd_same⟩
      · walk_at "w"
        rw [if_neg (fun z => c2 (of_decide_eq_true z.2))]
        exact ⟨rfl, kg, hg1⟩
    · walk_at "w"
      rw [if_neg (fun z => z.1 c1)]
      exact ⟨rfl, kg, hg1⟩
  rintro σ' H2 ⟨rfl, k2, hg2⟩
  have hd2 := k2.at0 hd
  have hl1 : (if lo ≠ v - 1 ∧ decide (lo + 1 ∈ bs) = true then [lo] else []).length ≤ 1 := by split <;> simp
  generalize (if lo ≠ v - 1 ∧ decide (lo + 1 ∈ bs) = true then [lo] else []) = us at hg2 hl1 k
  walk_at "w"
  refine w_iteN (fun c1 => ?_) (fun c1 => ?_)
  · walk_at "w"
    refine w_ite (fun c2 => ?_) (fun c2 => ?_)
    · walk_at "w"
      rw [if_pos ⟨c1, decide_eq_true c2⟩] at k
      exact k g _ hg (k2.own hg) upd_same
    · walk_at "w"
      rw [if_neg (fun z => c2 (of_decide_eq_true z.2)), List.append_nil] at k
      exact k g _ hg k2 hg2
  · walk_at "w"
    rw [if_neg (fun z => z.1 c1), List.append_nil] at k
    exact k g _ hg k2 hg2

/-! ### late writes -/
theorem rn_len {n : Int} {s : List Int × List Int × List Bool} (W : WFs n s) : (s.1 ++ [n + 2]).length = (n + 2).toNat := by
  have := WF.n0 W
  rw [List.length_append, WF.hR W]; simp; omega
theorem ap_do {a : AD} {H : Hp} {Q : VK} {E : XK} {x l r f : Addr} {n o : Int} {s : List Int × List Int × List Bool} (W : WFs n s) (hO : OkAt n s o) (h : LkS a H x l r f n s) (k : ∀ H', LkS a H' x l r f n (stS s o) → Kp [l, r, f] H H' → Q .non H') : sp_Links_apply a [.ref x, .int o] H Q E := by
  have ho1 := hO.1.1
  have ho2 := hO.1.2
  have qa := WF.at W (v := o.natAbs) (by omega) ho2
  have eR : (s.1 ++ [n + 2]).getD o.natAbs default = s.1.getD o.natAbs default := gd_app (by rw [WF.hR W]; omega)
  refine ⟨x, l, r, f, n, o, _, _, _, rfl, h, WF.hL W, rn_len W, WF.hF W, fun z => absurd hO.1 z, fun _ z => absurd z hO.2, fun _ _ => ⟨by omega, by omega, by omega, by omega, fun H3 X3 k3 => ?_⟩⟩
  have ea := ap_app W (x := n + 2) hO.1
  rw [ea.1, ea.2] at X3
  exact k H3 X3 k3
def bkF (log : List Int) (i : Nat) (u : Int) : Bool := decide (0 < u ∧ u ∈ log.take i)
def lateR (i : Nat) (gs : List Int) : List (List V) := gs.map fun g => [V.int (i : Int), V.int g]
def lateP (n : Int) (log : List Int) (k : Nat) : List (List V) := (List.range k).flatMap fun i => lateR i (lateF (runS (s0 n) (log.take i)) (bkF log i) ((log.getD i default).natAbs : Int))
theorem lateP_succ (n : Int) (log : List Int) (k : Nat) : lateP n log (k + 1) = lateP n log k ++ lateR k (lateF (runS (s0 n) (log.take k)) (bkF log k) ((log.getD k default).natAbs : Int)) := by
  unfold lateP; rw [List.range_succ, List.flatMap_append]; simp
theorem lateP_len (n : Int) (log : List Int) : ∀ k, (lateP n log k).length ≤ 2 * k
  | 0 => by simp [lateP]
  | k + 1 => by
    have h1 := lateP_len n log k
    have h2 := lateF_len (runS (s0 n) (log.take k)) (bkF log k) ((log.getD k default).natAbs : Int)
    rw [lateP_succ, List.length_append]
    unfold lateR
    rw [List.length_map]; omega
theorem bk_eq {log bs : List Int} {i : Nat} (h : ∀ u, u ∈ bs ↔ 0 < u ∧ u ∈ log.take i) : (fun u => decide (u ∈ bs)) = bkF log i := by
  funext u
  unfold bkF
  exact decide_eq_decide.mpr (h u)
def sp_late_writes (a : AD) : Sp := fun vs H Q E => ∃ (n : Int) (p : Addr) (log : List Int), vs = [.int n, .ref p] ∧ H p = some (.lst (log.map V.int)) ∧ log.length ≤ 100000 ∧ onceSp a n log H E (∀ q xs H', H q = none → Kp [] H H' → H' q = some (.lst xs) → Tps H' xs (lateP n log log.length) → Q (.ref q) H')
theorem sc_late_writes : FnScope ["size", "log", "links", "back", "pairs", "index", "operation", "gap"] ["size", "log"] (defScope s_late_writes) := ⟨rfl, rfl, rfl, by decide +kernel, rfl, by decide +kernel, by decide +kernel⟩
theorem ok_late_writes {P : Program} {w : World} {K : PySem.W.Frag} {mg : Str → Option Value} {base : Heap} {a : AD} (T : Txt P K mg a) (G_check_once : FnA P w K mg base 4 a.f_check_once ["size", "log"] (sp_check_once a)) (G_Links___init__ : FnA P w K mg base 3 a.f_Links___init__ ["self", "size"] (sp_Links___init__ a)) (G_late_gaps : FnA P w K mg base 3 a.f_late_gaps ["links", "back", "node"] (sp_late_gaps a)) (G_Links_apply : FnA P w K mg base 4 a.f_Links_apply ["self", "operation"] (sp_Links_apply a)) : FnA P w K mg base 5 a.f_late_writes ["size", "log"] (sp_late_writes a) := by
  obtain ⟨fd, F, b⟩ := T.F_late_writes
  refine FnA.of F sc_late_writes b (fun vs H Q E h => by first | (obtain ⟨rfl, _⟩ := h; rfl) | (obtain ⟨_, rfl, _⟩ := h; rfl) | (obtain ⟨_, _, rfl, _⟩ := h; rfl) | (obtain ⟨_, _, _, rfl, _⟩ := h; rfl) | (obtain ⟨_, _, _, _, rfl, _⟩ := h; rfl) | (obtain ⟨_, _, _, _, _, rfl, _⟩ := h; rfl) | (obtain ⟨_, _, _, _, _, _, rfl, _⟩ := h; rfl) | (obtain ⟨_, _, _, _, _, _, _, rfl, _⟩ := h; rfl) | (obtain ⟨_, _, _, _, _, _, _, _, rfl, _⟩ := h; rfl) | (obtain ⟨_, _, _, _, _, _, _, _, _, rfl, _⟩ := h; rfl) | (obtain ⟨_, _, _, _, _, _, _, _, _, _, rfl, _⟩ := h; rfl) | (obtain ⟨_, _, _, _, _, _, _, _, _, _, _, rfl, _⟩ := h; rfl) | (obtain ⟨_, _, _, _, _, _, _, _, _, _, _, _, rfl, _⟩ := h; rfl) | (obtain ⟨_, _, _, _, _, _, _, _, _, _, _, _, _, rfl, _⟩ := h; rfl) | (obtain ⟨_, _, _, _, _, _, _, _, _, _, _, _, _, _, rfl, _⟩ := h; rfl) | (obtain ⟨_, _, _, _, _, _, _, _, _, _, _, _, _, _, _, rfl, _⟩ := h; rfl) | (obtain ⟨_, _, _, _, _, _, _, _, _, _, _, _, _, _, _, _, rfl, _⟩ := h; rfl) | (obtain ⟨_, _, _, _, _, _, _, _, _, _, _, _, _, _, _, _, _, rfl, _⟩ := h; rfl) | (obtain ⟨_, _, _, _, _, _, _, _, _, _, _, _, _, _, _, _, _, _, rfl, _⟩ := h; rfl) | (obtain ⟨_, _, _, _, _, _, _, _, _, _, _, _, _, _, _, _, _, _, _, rfl, _⟩ := h; rfl) | (obtain ⟨_, _, _, _, _, _, _, _, _, _, _, _, _, _, _, _, _, _, _, _, rfl, _⟩ := h; rfl) | (obtain ⟨_, _, _, _, _, _, _, _, _, _, _, _, _, _, _, _, _, _, _, _, _, rfl, _⟩ := h; rfl) | (obtain ⟨_, _, _, _, _, _, _, _, _, _, _, _, _, _, _, _, _, _, _, _, _, _, rfl, _⟩ := h; rfl) | (obtain ⟨_, _, _, _, _, _, _, _, _, _, _, _, _, _, _, _, _, _, _, _, _, _, _, rfl, _⟩ := h; rfl)) (fun cdv A outer s H vs Q E hr tk pz h => ?_)
  have hu := hr.units
  have hrH := L2H.roomH_of hr
  obtain ⟨n, p, log, rfl, hp, hlen, hs, h⟩ := h
  refine ⟨_, (pss_cons (ps_expr (pe_callA G_check_once (Room.mono hr (by decide)) T.n_check_once tk (pa_cons (pv 0) (pa_cons (pv 1) pa_nil))))
      (pss_cons (ps_set (i := 2) sc_late_writes.nd rfl (Or.inl rfl) (pe_makeS G_Links___init__ T.mk_Links (Room.mono hr (by decide)) T.c_Links tk (pa_cons (pv 0) pa_nil)))
      (pss_cons (ps_set (i := 3) sc_late_writes.nd rfl (Or.inl rfl) pe_dnewK)
      (pss_cons (ps_set (i := 4) sc_late_writes.nd rfl (Or.inl rfl) (pe_lst pa_nil))
      (pss_cons (ps_for pz rfl (pi_enum rfl T.b_enumerate (pa_cons (pv 1) pa_nil)) (pg_tup (n := 2) rfl (pgs_cons (pg_name (i := 5) sc_late_writes.nd rfl (Or.inl rfl)) (pgs_cons (pg_name (i := 6) sc_late_writes.nd rfl (Or.inl rfl)) pgs_nil)))
      (pss_cons (ps_for pz rfl (pi_list (pe_callA G_late_gaps (Room.mono hr (by decide)) T.n_late_gaps tk (pa_cons (pv 2) (pa_cons (pv 3) (pa_cons (pe_callB (b_abs) rfl T.b_abs (by decide +kernel) (pa_cons (pv 6) pa_nil)) pa_nil))))) (pg_name (i := 7) sc_late_writes.nd rfl (Or.inl rfl))
      (pss_one (ps_expr (pe_bm PySem.F.plainAttrs_list PySem.F.slot_list_append PySem.F.type_list_append mt_append (pv 4) (pa_cons (pe_tup (pa_cons (pv 5) (pa_cons (pv 7) pa_nil))) pa_nil)))))
      (pss_cons (ps_expr (pe_methS (pl := _) G_Links_apply (Room.mono hr (by decide)) T.cl_Links T.me_Links_apply tk (pv 2) (pa_cons (pv 6) pa_nil)))
      (pss_one (ps_if (pt_cmpA op_gt (pv 6) pe_int (nomark _)) (pss_one (ps_dput (hu1 hu) (pv 3) (pv 6) pe_bl rfl)) pss_nil)))))
      (pss_one (ps_ret (pv 4)))))))), ?_⟩
  show (_ : Ends → L2.St → Hp → Prop) _ [some _, some _, none, none, none, none, none, none] _
  try dsimp only [L2H.cxH, cxOf]
  walk_at "w"
  refine ⟨n, p, log, rfl, hp, hlen, hs, fun n0 n1 => ?_⟩
  obtain ⟨hb, hi, hk⟩ := h n0 n1
  refine ⟨hb, hi, fun hok => ⟨(hk hok).1, fun hon H0 k0 => ?_⟩⟩
  have k := (hk hok).2 hon
  walk_at "w"
  refine mk_new (fun z => absurd ⟨n0, n1⟩ z) fun _ _ x l r f H1 hx hl hr hf hL k1 => ?_
  have k01 := k0.trans k1
  have hl0 := k0.free hl
  have hr0 := k0.free hr
  have hf0 := k0.free hf
  walk_at "w"
  intro d hd
  have kd := k01.new (o := .dK []) hd
  have hLd := hL.kp0 (Kp.refl.new (o := .dK []) hd)
  have hdd : upd H1 d (.dK []) d = some (.dK (dkS (.bl true) [])) := upd_same
  have hd0 := k01.free hd
  have sd4 : d ∉ [x, l, r, f] := nm_of hd hL.live
  generalize upd H1 d (.dK []) = H2 at kd hLd hdd ⊢
  walk_at "w"
  intro q hq
  have kq := kd.new (o := .lst []) hq
  have hLq := hLd.kp0 (Kp.refl.new (o := .lst []) hq)
  have hqq : upd H2 q (.lst []) q = some (.lst []) := upd_same
  have hq0 := kd.free hq
  have sq4 : q ∉ [x, l, r, f] := nm_of hq hLd.live
  have dq : d ≠ q := ne_of_none hdd hq
  have hdq : upd H2 q (.lst []) d = some (.dK (dkS (.bl true) [])) := upd_new hq hdd
  generalize upd H2 q (.lst []) = H3 at kq hLq hqq hdq ⊢
  walk_at "w"
  refine w_enumM (us := log) (f := V.int) (p := p) (kq.at0 hp) (fun i σ' H' => ∃ z1 z2 z3 bs xs, σ' = [some (.int n), some (.ref p), some (.ref x), some (.ref d), some (.ref q), z1, z2, z3] ∧ Kp [] H H' ∧ LkS a H' x l r f n (runS (s0 n) (log.take i)) ∧ H' d = some (.dK (dkS (.bl true) bs)) ∧ bs.length ≤ i ∧ (∀ u, u ∈ bs ↔ 0 < u ∧ u ∈ log.take i) ∧ H' q = some (.lst xs) ∧ Tps H' xs (lateP n log i)) ⟨_, _, _, [], [], rfl, kq, hLq, hdq, Nat.le_refl _, fun u => by simp, hqq, .nil⟩ (fun i σ' H' _ h => by obtain ⟨_, _, _, _, _, _, h, _⟩ := h; exact h.at0 hp) ?_ ?_
  · clear kq hLq hqq hdq hdd hLd hL kd k01
    rintro i u T σ' H4 hu ⟨z1, z2, z3, bs, xs, rfl, k4, hL4, hd4, hbl, hbs, hq4, hT4⟩ hT
    have hil : i < log.length := (List.getElem?_eq_some_iff.mp hu).1
    have hgu : log.getD i default = u := by rw [List.getD_eq_getElem?_getD, hu]; rfl
    have hO := hok i u hil hu
    have Wi := runS_wf (wfs0 n0 n1) i (by omega) (fun j o hj ho => hok j o (by omega) ho)
    have kT := Kp.refl.new (ms := []) (o := .tup [.int (i : Int), .int u]) hT
    have k5 := k4.trans0 kT
    have hL5 := hL4.kp0 kT
    have hd5 := kT.at0 hd4
    have hq5 := kT.at0 hq4
    have hT5 := hT4.kp0 kT
    generalize upd H4 T (.tup [.int (i : Int), .int u]) = H5 at k5 hL5 hd5 hq5 hT5 ⊢
    clear k4 hL4 hd4 hq4 hT4 kT hT
    have ho1 := hO.1.1
    have ho2 := hO.1.2
    have hxl := hT5.len
    have hpl := lateP_len n log i
    walk_at "w"
    refine ⟨x, l, r, f, d, n, (u.natAbs : Int), _, bs, rfl, hL5, Wi, by omega, ho2, hd5, fun t H6 ht k6 ht6 => ?_⟩
    rw [bk_eq hbs] at ht6
    have hgl := lateF_len (runS (s0 n) (log.take i)) (bkF log i) (u.natAbs : Int)
    have esucc : lateP n log (i + 1) = lateP n log i ++ lateR i (lateF (runS (s0 n) (log.take i)) (bkF log i) (u.natAbs : Int)) := by rw [lateP_succ, hgu]
    generalize lateF (runS (s0 n) (log.take i)) (bkF log i) (u.natAbs : Int) = gs at ht6 hgl esucc
    have k06 := k5.trans0 k6
    have hL6 := hL5.kp0 k6
    have hd6 := k6.at0 hd5
    have hq6 := k6.at0 hq5
    have hT6 := hT5.kp0 k6
    have tq : t ≠ q := fun z => by rw [z, hq5] at ht; cases ht
    walk_at "w"
    refine w_forM (us := gs) (f := V.int) (p := t) ht6 (fun j σ' H' => ∃ z3 ys, σ' = [some (.int n), some (.ref p), some (.ref x), some (.ref d), some (.ref q), some (.int (i : Int)), some (.int u), z3] ∧ Kp [] H H' ∧ LkS a H' x l r f n (runS (s0 n) (log.take i)) ∧ H' d = some (.dK (dkS (.bl true) bs)) ∧ H' q = some (.lst ys) ∧ Tps H' ys (lateP n log i ++ lateR i (gs.take j)) ∧ H' t = some (.lst (gs.map V.int))) ⟨_, xs, rfl, k06, hL6, hd6, hq6, by simpa [lateR] using hT6, ht6⟩ (fun j σ' H' _ h => by obtain ⟨_, _, _, _, _, _, _, _, h⟩ := h; exact h) ?_ ?_
    · clear k06 hL6 hd6 hq6 hT6 ht6 k5 hL5 hd5 hq5 hT5
      rintro j g σ' H7 hg ⟨z3, ys, rfl, k7, hL7, hd7, hq7, hT7, ht7⟩
      have hyl := hT7.len
      have hjl : (gs.take j).length ≤ 2 := by rw [List.length_take]; omega
      have hyl2 : ys.length ≤ 300000 := by
        rw [hyl, List.length_append]
        unfold lateR
        rw [List.length_map]; omega
      walk_at "w"
      intro T2 hT2
      walk_at "w"
      have kT2 := Kp.refl.new (ms := []) (o := .tup [.int (i : Int), .int g]) hT2
      refine ⟨_, _, rfl, (k7.trans0 kT2).own hq0, ?_, upd_get dq (kT2.at0 hd7), upd_same, ?_, upd_get tq (kT2.at0 ht7)⟩
      · exact Lnk.kpS (hL7.kp0 kT2) (Kp.refl.mut (ms := [q]) (by simp)) (nm_swap sq4)
      · have e : lateR i (gs.take (j + 1)) = lateR i (gs.take j) ++ [[.int (i : Int), .int g]] := by
          unfold lateR
          rw [take_snoc hg, List.map_append]; rfl
        rw [e, ← List.append_assoc]
        exact tps_app hq7 hT7 hT2
    · clear k06 hL6 hd6 hq6 hT6 ht6 k5 hL5 hd5 hq5 hT5
      rintro σ' H7 ⟨z3, ys, rfl, k7, hL7, hd7, hq7, hT7, ht7⟩
      rw [List.take_length, ← esucc] at hT7
      have hx7 := hL7.1.choose_spec
      walk_at "w"
      refine ap_do Wi hO hL7 fun H8 hL8 k8 => ?_
      have k08 := kp_new3 k7 hl0 hr0 hf0 k8
      have hd8 := k8 d _ hd7 (nm_sub sd4 (by simp))
      have hq8 := k8 q _ hq7 (nm_sub sq4 (by simp))
      have hT8 : Tps H8 ys (lateP n log (i + 1)) := hT7.kpm k8 (by
        intro m hm
        simp only [List.mem_cons, List.mem_nil_iff, or_false] at hm
        rcases hm with rfl | rfl | rfl
        · exact ⟨_, hL7.2.1⟩
        · exact ⟨_, hL7.2.2.1⟩
        · exact ⟨_, hL7.2.2.2.1⟩)
      have hL8 : LkS a H8 x l r f n (runS (s0 n) (log.take (i + 1))) := by
        rw [take_snoc hu, runS_snoc]; exact hL8
      walk_at "w"
      refine w_ite (fun c => ?_) (fun c => ?_)
      · walk_at "w"
        refine ⟨_, _, _, insU bs u, ys, rfl, k08.own hd0, ?_, upd_same, by have := insU_len bs u; omega, fun v => ?_, upd_get (Ne.symm dq) hq8, ?_⟩
        · exact Lnk.kpS hL8 (Kp.refl.mut (ms := [d]) (by simp)) (nm_swap sd4)
        · rw [insU_mem, hbs, mem_take_snoc hu]
          constructor
          · rintro (⟨h1, h2⟩ | rfl)
            · exact ⟨h1, .inl h2⟩
            · exact ⟨c, .inr rfl⟩
          · rintro ⟨h1, h2 | rfl⟩
            · exact .inl ⟨h1, h2⟩
            · exact .inr rfl
        · exact hT8.kp fun b o z e => by
            obtain ⟨ts, rfl⟩ := z
            rw [upd_ne (fun y => by rw [y, hd8] at e; cases e)]; exact e
      · walk_at "w"
        refine ⟨_, _, _, bs, ys, rfl, k08, hL8, hd8, by omega, fun v => ?_, hq8, hT8⟩
        rw [hbs, mem_take_snoc hu]
        constructor
        · rintro ⟨h1, h2⟩
          exact ⟨h1, .inl h2⟩
        · rintro ⟨h1, h2 | rfl⟩
          · exact ⟨h1, h2⟩
          · exact absurd h1 c
  · rintro σ' H4 ⟨z1, z2, z3, bs, xs, rfl, k4, hL4, hd4, hbl, hbs, hq4, hT4⟩
    walk_at "w"
    exact k q xs H4 hq0 k4 hq4 hT4
def sp_is_complete (a : AD) : Sp := fun vs H Q E => ∃ (n : Int) (p : Addr) (log : List Int), vs = [.int n, .ref p] ∧ H p = some (.lst (log.map V.int)) ∧ log.length ≤ 100000 ∧ onceSp a n log H E (∀ H', Kp [] H H' → Q (.bl (decide (outL n (runS (s0 n) log).2.2 = []))) H')
theorem sc_is_complete : FnScope ["size", "log"] ["size", "log"] (defScope s_is_complete) := ⟨rfl, rfl, rfl, by decide +kernel, rfl, by decide +kernel, by decide +kernel⟩
theorem ok_is_complete {P : Program} {w : World} {K : PySem.W.Frag} {mg : Str → Option Value} {base : Heap} {a : AD} (T : Txt P K mg a) (G_check_once : FnA P w K mg base 4 a.f_check_once ["size", "log"] (sp_check_once a)) (G_Links_outs : FnA P w K mg base 2 a.f_Links_outs ["self"] (sp_Links_outs a)) (G_replay : FnA P w K mg base 5 a.f_replay ["size", "log"] (sp_replay a)) : FnA P w K mg base 6 a.f_is_complete ["size", "log"] (sp_is_complete a) := by
  obtain ⟨fd, F, b⟩ := T.F_is_complete
  refine FnA.of F sc_is_complete b (fun vs H Q E h => by first | (obtain ⟨rfl, _⟩ := h; rfl) | (obtain ⟨_, rfl, _⟩ := h; rfl) | (obtain ⟨_, _, rfl, _⟩ := h; rfl) | (obtain ⟨_, _, _, rfl, _⟩ := h; rfl) | (obtain ⟨_, _, _, _, rfl, _⟩ := h; rfl) | (obtain ⟨_, _, _, _, _, rfl, _⟩ := h; rfl) | (obtain ⟨_, _, _, _, _, _, rfl, _⟩ := h; rfl) | (obtain ⟨_, _, _, _, _, _, _, rfl, _⟩ := h; rfl) | (obtain ⟨_, _, _, _, _, _, _, _, rfl, _⟩ := h; rfl) | (obtain ⟨_, _, _, _, _, _, _, _, _, rfl, _⟩ := h; rfl) | (obtain ⟨_, _, _, _, _, _, _, _, _, _, rfl, _⟩ := h; rfl) | (obtain ⟨_, _, _, _, _, _, _, _, _, _, _, rfl, _⟩ := h; rfl) | (obtain ⟨_, _, _, _, _, _, _, _, _, _, _, _, rfl, _⟩ := h; rfl) | (obtain ⟨_, _, _, _, _, _, _, _, _, _, _, _, _, rfl, _⟩ := h; rfl) | (obtain ⟨_, _, _, _, _, _, _, _, _, _, _, _, _, _, rfl, _⟩ := h; rfl) | (obtain ⟨_, _, _, _, _, _, _, _, _, _, _, _, _, _, _, rfl, _⟩ := h; rfl) | (obtain ⟨_, _, _, _, _, _, _, _, _, _, _, _, _, _, _, _, rfl, _⟩ := h; rfl) | (obtain ⟨_, _, _, _, _, _, _, _, _, _, _, _, _, _, _, _, _, rfl, _⟩ := h; rfl) | (obtain ⟨_, _, _, _, _, _, _, _, _, _, _, _, _, _, _, _, _, _, rfl, _⟩ := h; rfl) | (obtain ⟨_, _, _, _, _, _, _, _, _, _, _, _, _, _, _, _, _, _, _, rfl, _⟩ := h; rfl) | (obtain ⟨_, _, _, _, _, _, _, _, _, _, _, _, _, _, _, _, _, _, _, _, rfl, _⟩ := h; rfl) | (obtain ⟨_, _, _, _, _, _, _, _, _, _, _, _, _, _, _, _, _, _, _, _, _, rfl, _⟩ := h; rfl) | (obtain ⟨_, _, _, _, _, _, _, _, _, _, _, _, _, _, _, _, _, _, _, _, _, _, rfl, _⟩ := h; rfl) | (obtain ⟨_, _, _, _, _, _, _, _, _, _, _, _, _, _, _, _, _, _, _, _, _, _, _, rfl, _⟩ := h; rfl)) (fun cdv A outer s H vs Q E hr tk pz h => ?_)
  have hu := hr.units
  have hrH := L2H.roomH_of hr
  obtain ⟨n, p, log, rfl, hp, hlen, hs, h⟩ := h
  refine ⟨_, (pss_cons (ps_expr (pe_callA G_check_once (Room.mono hr (by decide)) T.n_check_once tk (pa_cons (pv 0) (pa_cons (pv 1) pa_nil))))
      (pss_one (ps_ret (pe_cmpR (o_eq hu) (pe_callB (b_len) rfl T.b_len (by decide +kernel) (pa_cons (pe_methS0 (pl := _) G_Links_outs (Room.mono hr (by decide)) T.cl_Links T.me_Links_outs tk (pe_callA G_replay (Room.mono hr (by decide)) T.n_replay tk (pa_cons (pv 0) (pa_cons (pv 1) pa_nil)))) pa_nil)) pe_int (nomark _))))), ?_⟩
  show (_ : Ends → L2.St → Hp → Prop) _ [some _, some _] _
  try dsimp only [L2H.cxH, cxOf]
  walk_at "w"
  refine ⟨n, p, log, rfl, hp, hlen, hs, fun n0 n1 => ?_⟩
  obtain ⟨hb, hi, hk⟩ := h n0 n1
  refine ⟨hb, hi, fun hok => ⟨(hk hok).1, fun hon H0 k0 => ?_⟩⟩
  have k := (hk hok).2 hon
  have W : WFs n (runS (s0 n) log) := by
    have := runS_wf (wfs0 n0 n1) log.length (Nat.le_refl _) hok
    rwa [List.take_length] at this
  walk_at "w"
  refine ⟨n, p, log, rfl, k0.at0 hp, hlen, log_ok n0 n1 hok fun x l r f H1 hx hl hr hf hL k1 => ?_⟩
  have hx1 := hL.1.choose_spec
  walk_at "w"
  refine ⟨x, l, r, f, n, _, rfl, hL, W, fun t H2 ht k2 ht2 => ?_⟩
  have e : decide (((outL n (runS (s0 n) log).2.2).length : Int) = 0) = decide (outL n (runS (s0 n) log).2.2 = []) := by
    apply decide_eq_decide.mpr
    rw [← List.length_eq_zero_iff]; omega
  walk_at "w"
  rw [e]
  exact k H2 ((k0.trans k1).trans0 k2)
/-- the operations that extend a log without a late write -/
def safeF (n : Int) (log : List Int) : List Int := (List.range n.toNat).filterMap fun i : Nat => if 1 + (i : Int) ∉ log ∧ lateF (runS (s0 n) log) (bkF log log.length) (1 + (i : Int)) = [] then some (if (runS (s0 n) log).2.2.getD (1 + (i : Int)).toNat default = true then 1 + (i : Int) else -(1 + (i : Int))) else none
theorem safe_snoc (n : Int) (log : List Int) (k : Nat) (c : Prop) [Decidable c] (o : Int) (hc : c ↔ (1 + (k : Int) ∉ log ∧ lateF (runS (s0 n) log) (bkF log log.length) (1 + (k : Int)) = [])) (ho : o = if (runS (s0 n) log).2.2.getD (1 + (k : Int)).toNat default = true then 1 + (k : Int) else -(1 + (k : Int))) : ((List.range (k + 1)).filterMap fun i : Nat => if 1 + (i : Int) ∉ log ∧ lateF (runS (s0 n) log) (bkF log log.length) (1 + (i : Int)) = [] then some (if (runS (s0 n) log).2.2.getD (1 + (i : Int)).toNat default = true then 1 + (i : Int) else -(1 + (i : Int))) else none) = ((List.range k).filterMap fun i : Nat => if 1 + (i : Int) ∉ log ∧ lateF (runS (s0 n) log) (bkF log log.length) (1 + (i : Int)) = [] then some (if (runS (s0 n) log).2.2.getD (1 + (i : Int)).toNat default = true then 1 + (i : Int) else -(1 + (i : Int))) else none) ++ (if c then [o] else []) := by
  rw [List.range_succ, List.filterMap_append]
  congr 1
  by_cases d : c
  · rw [if_pos d, List.filterMap_cons, if_pos (hc.mp d), ← ho]; rfl
  · rw [if_neg d, List.filterMap_cons, if_neg (fun z => d (hc.mpr z))]; rfl
def sp_safe_next (a : AD) : Sp := fun vs H Q E => ∃ (n : Int) (p : Addr) (log : List Int), vs = [.int n, .ref p] ∧ H p = some (.lst (log.map V.int)) ∧ log.length ≤ 100000 ∧ onceSp a n log H E (∀ q H', H q = none → Kp [] H H' → H' q = some (.lst ((safeF n log).map V.int)) → Q (.ref q) H')

/-! ### due nodes, debts -/
/-- is the node due -/
def dueP (s : List Int × List Int × List Bool) (v : Int) : Prop := s.2.2.getD v.toNat default = true ∨ stateOf s.1 s.2.1 v = ("left" : Str) ∨ stateOf s.1 s.2.1 (v - 1) = ("right" : Str)
instance (s : List Int × List Int × List Bool) (v : Int) : Decidable (dueP s v) := inferInstanceAs (Decidable (_ ∨ _))
theorem gap_app {n : Int} {s : List Int × List Int × List Bool} (W : WFs n s) {g x : Int} (g0 : 0 ≤ g) (g1 : g ≤ n) : stateOf (s.1 ++ [x]) s.2.1 g = stateOf s.1 s.2.1 g := by
  obtain ⟨m, rfl⟩ := Int.eq_ofNat_of_zero_le g0
  exact state_app W (by omega)
def shareF (s : List Int × List Int × List Bool) (v : Int) : Int := if s.2.2.getD v.toNat default = true then 1 else 2
def dueL (n : Int) (s : List Int × List Int × List Bool) : List Int := (List.range n.toNat).filterMap fun i : Nat => if dueP s (1 + (i : Int)) then some (1 + (i : Int)) else none
def debtF (n : Int) (s : List Int × List Int × List Bool) : Int := ((dueL n s).map (shareF s)).sum
theorem dueL_in {n : Int} {s : List Int × List Int × List Bool} : ∀ v ∈ dueL n s, 1 ≤ v ∧ v ≤ n ∧ dueP s v := by
  intro v hv
  unfold dueL at hv
  obtain ⟨i, hi, e⟩ := List.mem_filterMap.mp hv
  have hi := List.mem_range.mp hi
  by_cases c : dueP s (1 + (i : Int))
  · rw [if_pos c] at e; cases e; exact ⟨by omega, by omega, c⟩
  · rw [if_neg c] at e; cases e
theorem dueL_len (n : Int) (s : List Int × List Int × List Bool) : (dueL n s).length ≤ n.toNat := by
  unfold dueL
  refine Nat.le_trans (List.length_filterMap_le _ _) ?_
  rw [List.length_range]; exact Nat.le_refl _
def sp_Links_is_out (a : AD) : Sp := fun vs H Q E => ∃ (x l r f : Addr) (n v : Int) (L R : List Int) (F : List Bool), vs = [.ref x, .int v] ∧ Lnk a H x l r f n L R F ∧ F.length = (n + 2).toNat ∧ (¬(0 ≤ v ∧ v ≤ n + 1) → xBadNode a (.int v) E H) ∧ (0 ≤ v → v ≤ n + 1 → Q (.bl (F.getD v.toNat default)) H)
theorem sc_Links_is_out : FnScope ["self", "node"] ["self", "node"] (defScope s_Links_is_out) := ⟨rfl, rfl, rfl, by decide +kernel, rfl, by decide +kernel, by decide +kernel⟩
theorem ok_Links_is_out {P : Program} {w : World} {K : PySem.W.Frag} {mg : Str → Option Value} {base : Heap} {a : AD} (T : Txt P K mg a) : FnA P w K mg base 2 a.f_Links_is_out ["self", "node"] (sp_Links_is_out a) := by
  obtain ⟨fd, F, b⟩ := T.F_Links_is_out
  refine FnA.of F sc_Links_is_out b (fun vs H Q E h => by first | (obtain ⟨rfl, _⟩ := h; rfl) | (obtain ⟨_, rfl, _⟩ := h; rfl) | (obtain ⟨_, _, rfl, _⟩ := h; rfl) | (obtain ⟨_, _, _, rfl, _⟩ := h; rfl) | (obtain ⟨_, _, _, _, rfl, _⟩ := h; rfl) | (obtain ⟨_, _, _, _, _, rfl, _⟩ := h; rfl) | (obtain ⟨_, _, _, _, _, _, rfl, _⟩ := h; rfl) | (obtain ⟨_, _, _, _, _, _, _, rfl, _⟩ := h; rfl) | (obtain ⟨_, _, _, _, _, _, _, _, rfl, _⟩ := h; rfl) | (obtain ⟨_, _, _, _, _, _, _, _, _, rfl, _⟩ := h; rfl) | (obtain ⟨_, _, _, _, _, _, _, _, _, _, rfl, _⟩ := h; rfl) | (obtain ⟨_, _, _, _, _, _, _, _, _, _, _, rfl, _⟩ := h; rfl) | (obtain ⟨_, _, _, _, _, _, _, _, _, _, _, _, rfl, _⟩ := h; rfl) | (obtain ⟨_, _, _, _, _, _, _, _, _, _, _, _, _, rfl, _⟩ := h; rfl) | (obtain ⟨_, _, _, _, _, _, _, _, _, _, _, _, _, _, rfl, _⟩ := h; rfl) | (obtain ⟨_, _, _, _, _, _, _, _, _, _, _, _, _, _, _, rfl, _⟩ := h; rfl) | (obtain ⟨_, _, _, _, _, _, _, _, _, _, _, _, _, _, _, _, rfl, _⟩ := h; rfl) | (obtain ⟨_, _, _, _, _, _, _, _, _, _, _, _, _, _, _, _, _, rfl, _⟩ := h; rfl) | (obtain ⟨_, _, _, _, _, _, _, _, _, _, _, _, _, _, _, _, _, _, rfl, _⟩ := h; rfl) | (obtain ⟨_, _, _, _, _, _, _, _, _, _, _, _, _, _, _, _, _, _, _, rfl, _⟩ := h; rfl) | (obtain ⟨_, _, _, _, _, _, _, _, _, _, _, _, _, _, _, _, _, _, _, _, rfl, _⟩ := h; rfl) | (obtain ⟨_, _, _, _, _, _, _, _, _, _, _, _, _, _, _, _, _, _, _, _, _, rfl, _⟩ := h; rfl) | (obtain ⟨_, _, _, _, _, _, _, _, _, _, _, _, _, _, _, _, _, _, _, _, _, _, rfl, _⟩ := h; rfl) | (obtain ⟨_, _, _, _, _, _, _, _, _, _, _, _, _, _, _, _, _, _, _, _, _, _, _, rfl, _⟩ := h; rfl)) (fun cdv A outer s H vs Q E hr tk pz h => ?_)
  have hu := hr.units
  have hrH := L2H.roomH_of hr
  obtain ⟨x, l, r, f, n, v, L, R, F, rfl, ⟨⟨dx, hx⟩, hl, hr', hf, _⟩, h3, hb, k⟩ := h
  refine ⟨_, (pss_cons (ps_if (pt_not (pt_chainA op_le op_le pe_int (pv 1) (pe_op o_add (pe_fld (pv 0) rfl) pe_int))) (pss_one (L2N.ps_raise rfl tk (Lk.pmk_own T.x_BadNode (List.cons_ne_nil _ _) hr T.c_BadNode (by exact (pa_cons (pv 1) pa_nil)) rfl))) pss_nil)
      (pss_one (ps_ret (pe_ix ix_seq (pe_fld (pv 0) rfl) (pv 1) (fun _ _ => rfl))))), ?_⟩
  show (_ : Ends → L2.St → Hp → Prop) _ [some _, some _] _
  try dsimp only [L2H.cxH, cxOf]
  walk_at "w"
  refine w_ite (fun c1 => ?_) (fun c1 => ?_)
  · walk_at "w"
    refine w_iteN (fun c2 => ?_) (fun c2 => ?_)
    · walk_at "w"
      refine ⟨rfl, fun d hd => hb (fun z => c2 z.2) d _ hd upd_same (Kp.refl.new hd)⟩
    · walk_at "w"
      exact k c1 c2
  · walk_at "w"
    refine ⟨rfl, fun d hd => hb (fun z => c1 z.1) d _ hd upd_same (Kp.refl.new hd)⟩
def sp_is_due (a : AD) : Sp := fun vs H Q E => ∃ (x l r f : Addr) (n v : Int) (s : List Int × List Int × List Bool), vs = [.ref x, .int v] ∧ LkS a H x l r f n s ∧ WFs n s ∧ 1 ≤ v ∧ v ≤ n ∧ Q (.bl (decide (dueP s v))) H
theorem sc_is_due : FnScope ["links", "node"] ["links", "node"] (defScope s_is_due) := ⟨rfl, rfl, rfl, by decide +kernel, rfl, by decide +kernel, by decide +kernel⟩
theorem ok_is_due {P : Program} {w : World} {K : PySem.W.Frag} {mg : Str → Option Value} {base : Heap} {a : AD} (T : Txt P K mg a) (G_Links_is_out : FnA P w K mg base 2 a.f_Links_is_out ["self", "node"] (sp_Links_is_out a)) (G_gap_state : FnA P w K mg base 4 a.f_gap_state ["links", "gap"] (sp_gap_state a)) : FnA P w K mg base 5 a.f_is_due ["links", "node"] (sp_is_due a) := by
  obtain ⟨fd, F, b⟩ := T.F_is_due
  refine FnA.of F sc_is_due b (fun vs H Q E h => by first | (obtain ⟨rfl, _⟩ := h; rfl) | (obtain ⟨_, rfl, _⟩ := h; rfl) | (obtain ⟨_, _, rfl, _⟩ := h; rfl) | (obtain ⟨_, _, _, rfl, _⟩ := h; rfl) | (obtain ⟨_, _, _, _, rfl, _⟩ := h; rfl) | (obtain ⟨_, _, _, _, _, rfl, _⟩ := h; rfl) | (obtain ⟨_, _, _, _, _, _, rfl, _⟩ := h; rfl) | (obtain ⟨_, _, _, _, _, _, _, rfl, _⟩ := h; rfl) | (obtain ⟨_, _, _, _, _, _, _, _, rfl, _⟩ := h; rfl) | (obtain ⟨_, _, _, _, _, _, _, _, _, rfl, _⟩ := h; rfl) | (obtain ⟨_, _, _, _, _, _, _, _, _, _, rfl, _⟩ := h; rfl) | (obtain ⟨_, _, _, _, _, _, _, _, _, _, _, rfl, _⟩ := h; rfl) | (obtain ⟨_, _, _, _, _, _, _, _, _, _, _, _, rfl, _⟩ := h; rfl) | (obtain ⟨_, _, _, _, _, _, _, _, _, _, _, _, _, rfl, _⟩ := h; rfl) | (obtain ⟨_, _, _, _, _, _, _, _, _, _, _, _, _, _, rfl, _⟩ := h; rfl) | (obtain ⟨_, _, _, _, _, _, _, _, _, _, _, _, _, _, _, rfl, _⟩ := h; rfl) | (obtain ⟨_, _, _, _, _, _, _, _, _, _, _, _, _, _, _, _, rfl, _⟩ := h; rfl) | (obtain ⟨_, _, _, _, _, _, _, _, _, _, _, _, _, _, _, _, _, rfl, _⟩ := h; rfl) | (obtain ⟨_, _, _, _, _, _, _, _, _, _, _, _, _, _, _, _, _, _, rfl, _⟩ := h; rfl) | (obtain ⟨_, _, _, _, _, _, _, _, _, _, _, _, _, _, _, _, _, _, _, rfl, _⟩ := h; rfl) | (obtain ⟨_, _, _, _, _, _, _, _, _, _, _, _, _, _, _, _, _, _, _, _, rfl, _⟩ := h; rfl) | (obtain ⟨_, _, _, _, _, _, _, _, _, _, _, _, _, _, _, _, _, _, _, _, _, rfl, _⟩ := h; rfl) | (obtain ⟨_, _, _, _, _, _, _, _, _, _, _, _, _, _, _, _, _, _, _, _, _, _, rfl, _⟩ := h; rfl) | (obtain ⟨_, _, _, _, _, _, _, _, _, _, _, _, _, _, _, _, _, _, _, _, _, _, _, rfl, _⟩ := h; rfl)) (fun cdv A outer s H vs Q E hr tk pz h => ?_)
  have hu := hr.units
  have hrH := L2H.roomH_of hr
  obtain ⟨x, l, r, f, n, v, s, rfl, hL, W, v1, v2, k⟩ := h
  refine ⟨_, (pss_cons (ps_if (pt_tru (pe_methS (pl := _) G_Links_is_out (Room.mono hr (by decide)) T.cl_Links T.me_Links_is_out tk (pv 0) (pa_cons (pv 1) pa_nil))) (pss_one (ps_ret pe_bl)) pss_nil)
      (pss_one (ps_ret (pe_or (pe_cmpR (o_eq hu) (pe_callA G_gap_state (Room.mono hr (by decide)) T.n_gap_state tk (pa_cons (pv 0) (pa_cons (pv 1) pa_nil))) pe_str (nomark _)) (pe_one (pe_cmpR (o_eq hu) (pe_callA G_gap_state (Room.mono hr (by decide)) T.n_gap_state tk (pa_cons (pv 0) (pa_cons (pe_op op_sub (pv 1) pe_int) pa_nil))) pe_str (nomark _))))))), ?_⟩
  show (_ : Ends → L2.St → Hp → Prop) _ [some _, some _] _
  try dsimp only [L2H.cxH, cxOf]
  have hO := hL.obj W
  have hx := hL.1.choose_spec
  walk_at "w"
  refine ⟨x, l, r, f, n, v, _, _, _, rfl, hL, WF.hF W, fun z => absurd ⟨by omega, by omega⟩ z, fun _ _ => ?_⟩
  walk_at "w"
  refine w_iteb (fun c => ?_) (fun c => ?_)
  · walk_at "w"
    rw [decide_eq_true (show dueP s v from Or.inl c)] at k
    exact k
  walk_at "w"
  refine ⟨x, l, r, f, n, v, _, _, _, rfl, hO, fun z => absurd ⟨by omega, by omega⟩ z, fun _ _ => ?_⟩
  rw [gap_app W (by omega) (by omega)]
  walk_at "w"
  by_cases c1 : stateOf s.1 s.2.1 v = ("left" : Str)
  · rw [show decide (stateOf s.1 s.2.1 v = ("left" : Str)) = true by simpa using c1]
    walk_at "w"
    rw [decide_eq_true (show dueP s v from Or.inr (Or.inl c1))] at k
    exact k
  · rw [show decide (stateOf s.1 s.2.1 v = ("left" : Str)) = false by simpa using c1]
    walk_at "w"
    refine ⟨x, l, r, f, n, v - 1, _, _, _, rfl, hO, fun z => absurd ⟨by omega, by omega⟩ z, fun _ _ => ?_⟩
    rw [gap_app W (by omega) (by omega)]
    walk_at "w"
    have e : decide (dueP s v) = decide (stateOf s.1 s.2.1 (v - 1) = ("right" : Str)) := by
      apply decide_eq_decide.mpr
      unfold dueP
      rw [c]
      constructor
      · rintro (h | h | h)
        · cases h
        · exact absurd h c1
        · exact h
      · intro h; exact .inr (.inr h)
    rw [e] at k
    exact k
def sp__share (a : AD) : Sp := fun vs H Q E => ∃ (x l r f : Addr) (n v : Int) (s : List Int × List Int × List Bool), vs = [.ref x, .int v] ∧ LkS a H x l r f n s ∧ WFs n s ∧ 1 ≤ v ∧ v ≤ n ∧ Q (.int (shareF s v)) H
theorem sc__share : FnScope ["links", "node"] ["links", "node"] (defScope s__share) := ⟨rfl, rfl, rfl, by decide +kernel, rfl, by decide +kernel, by decide +kernel⟩
theorem ok__share {P : Program} {w : World} {K : PySem.W.Frag} {mg : Str → Option Value} {base : Heap} {a : AD} (T : Txt P K mg a) (G_Links_is_out : FnA P w K mg base 2 a.f_Links_is_out ["self", "node"] (sp_Links_is_out a)) : FnA P w K mg base 3 a.f__share ["links", "node"] (sp__share a) := by
  obtain ⟨fd, F, b⟩ := T.F__share
  refine FnA.of F sc__share b (fun vs H Q E h => by first | (obtain ⟨rfl, _⟩ := h; rfl) | (obtain ⟨_, rfl, _⟩ := h; rfl) | (obtain ⟨_, _, rfl, _⟩ := h; rfl) | (obtain ⟨_, _, _, rfl, _⟩ := h; rfl) | (obtain ⟨_, _, _, _, rfl, _⟩ := h; rfl) | (obtain ⟨_, _, _, _, _, rfl, _⟩ := h; rfl) | (obtain ⟨_, _, _, _, _, _, rfl, _⟩ := h; rfl) | (obtain ⟨_, _, _, _, _, _, _, rfl, _⟩ := h; rfl) | (obtain ⟨_, _, _, _, _, _, _, _, rfl, _⟩ := h; rfl) | (obtain ⟨_, _, _, _, _, _, _, _, _, rfl, _⟩ := h; rfl) | (obtain ⟨_, _, _, _, _, _, _, _, _, _, rfl, _⟩ := h; rfl) | (obtain ⟨_, _, _, _, _, _, _, _, _, _, _, rfl, _⟩ := h; rfl) | (obtain ⟨_, _, _, _, _, _, _, _, _, _, _, _, rfl, _⟩ := h; rfl) | (obtain ⟨_, _, _, _, _, _, _, _, _, _, _, _, _, rfl, _⟩ := h; rfl) | (obtain ⟨_, _, _, _, _, _, _, _, _, _, _, _, _, _, rfl, _⟩ := h; rfl) | (obtain ⟨_, _, _, _, _, _, _, _, _, _, _, _, _, _, _, rfl, _⟩ := h; rfl) | (obtain ⟨_, _, _, _, _, _, _, _, _, _, _, _, _, _, _, _, rfl, _⟩ := h; rfl) | (obtain ⟨_, _, _, _, _, _, _, _, _, _, _, _, _, _, _, _, _, rfl, _⟩ := h; rfl) | (obtain ⟨_, _, _, _, _, _, _, _, _, _, _, _, _, _, _, _, _, _, rfl, _⟩ := h; rfl) | (obtain ⟨_, _, _, _, _, _, _, _, _, _, _, _, _, _, _, _, _, _, _, rfl, _⟩ := h; rfl) | (obtain ⟨_, _, _, _, _, _, _, _, _, _, _, _, _, _, _, _, _, _, _, _, rfl, _⟩ := h; rfl) | (obtain ⟨_, _, _, _, _, _, _, _, _, _, _, _, _, _, _, _, _, _, _, _, _, rfl, _⟩ := h; rfl) | (obtain ⟨_, _, _, _, _, _, _, _, _, _, _, _, _, _, _, _, _, _, _, _, _, _, rfl, _⟩ := h; rfl) | (obtain ⟨_, _, _, _, _, _, _, _, _, _, _, _, _, _, _, _, _, _, _, _, _, _, _, rfl, _⟩ := h; rfl)) (fun cdv A outer s H vs Q E hr tk pz h => ?_)
  have hu := hr.units
  have hrH := L2H.roomH_of hr
  obtain ⟨x, l, r, f, n, v, s, rfl, hL, W, v1, v2, k⟩ := h
  refine ⟨_, (pss_cons (ps_if (pt_tru (pe_methS (pl := _) G_Links_is_out (Room.mono hr (by decide)) T.cl_Links T.me_Links_is_out tk (pv 0) (pa_cons (pv 1) pa_nil))) (pss_one (ps_ret pe_int)) pss_nil)
      (pss_one (ps_ret pe_int))), ?_⟩
  show (_ : Ends → L2.St → Hp → Prop) _ [some _, some _] _
  try dsimp only [L2H.cxH, cxOf]
  have hx := hL.1.choose_spec
  unfold shareF at k
  walk_at "w"
  refine ⟨x, l, r, f, n, v, _, _, _, rfl, hL, WF.hF W, fun z => absurd ⟨by omega, by omega⟩ z, fun _ _ => ?_⟩
  walk_at "w"
  refine w_iteb (fun c => ?_) (fun c => ?_)
  · rw [if_pos c] at k
    walk_at "w"
    exact k
  · rw [if_neg (by rw [c]; exact Bool.false_ne_true)] at k
    walk_at "w"
    exact k
def lostL (n : Int) (s : List Int × List Int × List Bool) : List Int := lostF n s.1 s.2.1
def sp_is_repairable (a : AD) : Sp := fun vs H Q E => ∃ (x l r f : Addr) (n : Int) (s : List Int × List Int × List Bool), vs = [.ref x] ∧ LkS a H x l r f n s ∧ WFs n s ∧ ∀ H', Kp [] H H' → Q (.bl (decide (lostL n s = []))) H'
theorem sc_is_repairable : FnScope ["links"] ["links"] (defScope s_is_repairable) := ⟨rfl, rfl, rfl, by decide +kernel, rfl, by decide +kernel, by decide +kernel⟩
theorem ok_is_repairable {P : Program} {w : World} {K : PySem.W.Frag} {mg : Str → Option Value} {base : Heap} {a : AD} (T : Txt P K mg a) (G_lost_gaps : FnA P w K mg base 6 a.f_lost_gaps ["links"] (sp_lost_gaps a)) : FnA P w K mg base 7 a.f_is_repairable ["links"] (sp_is_repairable a) := by
  obtain ⟨fd, F, b⟩ := T.F_is_repairable
  refine FnA.of F sc_is_repairable b (fun vs H Q E h => by first | (obtain ⟨rfl, _⟩ := h; rfl) | (obtain ⟨_, rfl, _⟩ := h; rfl) | (obtain ⟨_, _, rfl, _⟩ := h; rfl) | (obtain ⟨_, _, _, rfl, _⟩ := h; rfl) | (obtain ⟨_, _, _, _, rfl, _⟩ := h; rfl) | (obtain ⟨_, _, _, _, _, rfl, _⟩ := h; rfl) | (obtain ⟨_, _, _, _, _, _, rfl, _⟩ := h; rfl) | (obtain ⟨_, _, _, _, _, _, _, rfl, _⟩ := h; rfl) | (obtain ⟨_, _, _, _, _, _, _, _, rfl, _⟩ := h; rfl) | (obtain ⟨_, _, _, _, _, _, _, _, _, rfl, _⟩ := h; rfl) | (obtain ⟨_, _, _, _, _, _, _, _, _, _, rfl, _⟩ := h; rfl) | (obtain ⟨_, _, _, _, _, _, _, _, _, _, _, rfl, _⟩ := h; rfl) | (obtain ⟨_, _, _, _, _, _, _, _, _, _, _, _, rfl, _⟩ := h; rfl) | (obtain ⟨_, _, _, _, _, _, _, _, _, _, _, _, _, rfl, _⟩ := h; rfl) | (obtain ⟨_, _, _, _, _, _, _, _, _, _, _, _, _, _, rfl, _⟩ := h; rfl) | (obtain ⟨_, _, _, _, _, _, _, _, _, _, _, _, _, _, _, rfl, _⟩ := h; rfl) | (obtain ⟨_, _, _, _, _, _, _, _, _, _, _, _, _, _, _, _, rfl, _⟩ := h; rfl) | (obtain ⟨_, _, _, _, _, _, _, _, _, _, _, _, _, _, _, _, _, rfl, _⟩ := h; rfl) | (obtain ⟨_, _, _, _, _, _, _, _, _, _, _, _, _, _, _, _, _, _, rfl, _⟩ := h; rfl) | (obtain ⟨_, _, _, _, _, _, _, _, _, _, _, _, _, _, _, _, _, _, _, rfl, _⟩ := h; rfl) | (obtain ⟨_, _, _, _, _, _, _, _, _, _, _, _, _, _, _, _, _, _, _, _, rfl, _⟩ := h; rfl) | (obtain ⟨_, _, _, _, _, _, _, _, _, _, _, _, _, _, _, _, _, _, _, _, _, rfl, _⟩ := h; rfl) | (obtain ⟨_, _, _, _, _, _, _, _, _, _, _, _, _, _, _, _, _, _, _, _, _, _, rfl, _⟩ := h; rfl) | (obtain ⟨_, _, _, _, _, _, _, _, _, _, _, _, _, _, _, _, _, _, _, _, _, _, _, rfl, _⟩ := h; rfl)) (fun cdv A outer s H vs Q E hr tk pz h => ?_)
  have hu := hr.units
  have hrH := L2H.roomH_of hr
  obtain ⟨x, l, r, f, n, s, rfl, hL, W, k⟩ := h
  refine ⟨_, (pss_one (ps_ret (pe_cmpR (o_eq hu) (pe_callB (b_len) rfl T.b_len (by decide +kernel) (pa_cons (pe_callA G_lost_gaps (Room.mono hr (by decide)) T.n_lost_gaps tk (pa_cons (pv 0) pa_nil)) pa_nil)) pe_int (nomark _)))), ?_⟩
  show (_ : Ends → L2.St → Hp → Prop) _ [some _] _
  try dsimp only [L2H.cxH, cxOf]
  walk_at "w"
  refine ⟨x, l, r, f, n, _, _, _, rfl, hL.obj W, fun p H1 hp k1 hp1 => ?_⟩
  rw [lost_app W] at hp1
  walk_at "w"
  have e : decide (((lostF n s.1 s.2.1).length : Int) = 0) = decide (lostL n s = []) := by
    apply decide_eq_decide.mpr
    unfold lostL
    rw [← List.length_eq_zero_iff]; omega
  rw [e]
  exact k H1 k1
def sp_check_repairable (a : AD) : Sp := fun vs H Q E => ∃ (x l r f : Addr) (n : Int) (s : List Int × List Int × List Bool), vs = [.ref x] ∧ LkS a H x l r f n s ∧ WFs n s ∧ (∀ g rest, lostL n s = g :: rest → xNotRepairable a (.int g) E H) ∧ (lostL n s = [] → ∀ H', Kp [] H H' → Q .non H')
theorem sc_check_repairable : FnScope ["links", "lost"] ["links"] (defScope s_check_repairable) := ⟨rfl, rfl, rfl, by decide +kernel, rfl, by decide +kernel, by decide +kernel⟩
theorem ok_check_repairable {P : Program} {w : World} {K : PySem.W.Frag} {mg : Str → Option Value} {base : Heap} {a : AD} (T : Txt P K mg a) (G_lost_gaps : FnA P w K mg base 6 a.f_lost_gaps ["links"] (sp_lost_gaps a)) : FnA P w K mg base 7 a.f_check_repairable ["links"] (sp_check_repairable a) := by
  obtain ⟨fd, F, b⟩ := T.F_check_repairable
  refine FnA.of F sc_check_repairable b (fun vs H Q E h => by first | (obtain ⟨rfl, _⟩ := h; rfl) | (obtain ⟨_, rfl, _⟩ := h; rfl) | (obtain ⟨_, _, rfl, _⟩ := h; rfl) | (obtain ⟨_, _, _, rfl, _⟩ := h; rfl) | (obtain ⟨_, _, _, _, rfl, _⟩ := h; rfl) | (obtain ⟨_, _, _, _, _, rfl, _⟩ := h; rfl) | (obtain ⟨_, _, _, _, _, _, rfl, _⟩ := h; rfl) | (obtain ⟨_, _, _, _, _, _, _, rfl, _⟩ := h; rfl) | (obtain ⟨_, _, _, _, _, _, _, _, rfl, _⟩ := h; rfl) | (obtain ⟨_, _, _, _, _, _, _, _, _, rfl, _⟩ := h; rfl) | (obtain ⟨_, _, _, _, _, _, _, _, _, _, rfl, _⟩ := h; rfl) | (obtain ⟨_, _, _, _, _, _, _, _, _, _, _, rfl, _⟩ := h; rfl) | (obtain ⟨_, _, _, _, _, _, _, _, _, _, _, _, rfl, _⟩ := h; rfl) | (obtain ⟨_, _, _, _, _, _, _, _, _, _, _, _, _, rfl, _⟩ := h; rfl) | (obtain ⟨_, _, _, _, _, _, _, _, _, _, _, _, _, _, rfl, _⟩ := h; rfl) | (obtain ⟨_, _, _, _, _, _, _, _, _, _, _, _, _, _, _, rfl, _⟩ := h; rfl) | (obtain ⟨_, _, _, _, _, _, _, _, _, _, _, _, _, _, _, _, rfl, _⟩ := h; rfl) | (obtain ⟨_, _, _, _, _, _, _, _, _, _, _, _, _, _, _, _, _, rfl, _⟩ := h; rfl) | (obtain ⟨_, _, _, _, _, _, _, _, _, _, _, _, _, _, _, _, _, _, rfl, _⟩ := h; rfl) | (obtain ⟨_, _, _, _, _, _, _, _, _, _, _, _, _, _, _, _, _, _, _, rfl, _⟩ := h; rfl) | (obtain ⟨_, _, _, _, _, _, _, _, _, _, _, _, _, _, _, _, _, _, _, _, rfl, _⟩ := h; rfl) | (obtain ⟨_, _, _, _, _, _, _, _, _, _, _, _, _, _, _, _, _, _, _, _, _, rfl, _⟩ := h; rfl) | (obtain ⟨_, _, _, _, _, _, _, _, _, _, _, _, _, _, _, _, _, _, _, _, _, _, rfl, _⟩ := h; rfl) | (obtain ⟨_, _, _, _, _, _, _, _, _, _, _, _, _, _, _, _, _, _, _, _, _, _, _, rfl, _⟩ := h; rfl)) (fun cdv A outer s H vs Q E hr tk pz h => ?_)
  have hu := hr.units
  have hrH := L2H.roomH_of hr
  obtain ⟨x, l, r, f, n, s, rfl, hL, W, hb, k⟩ := h
  refine ⟨_, (pss_cons (ps_set (i := 1) sc_check_repairable.nd rfl (Or.inl rfl) (pe_callA G_lost_gaps (Room.mono hr (by decide)) T.n_lost_gaps tk (pa_cons (pv 0) pa_nil)))
      (pss_one (ps_if (pt_tru (pv 1)) (pss_one (L2N.ps_raise rfl tk (Lk.pmk_own T.x_NotRepairable (List.cons_ne_nil _ _) hr T.c_NotRepairable (by exact (pa_cons (pe_ix ix_seq (pv 1) pe_int (fun _ _ => rfl)) pa_nil)) rfl))) pss_nil))), ?_⟩
  show (_ : Ends → L2.St → Hp → Prop) _ [some _, none] _
  try dsimp only [L2H.cxH, cxOf]
  walk_at "w"
  refine ⟨x, l, r, f, n, _, _, _, rfl, hL.obj W, fun p H1 hp k1 hp1 => ?_⟩
  rw [lost_app W] at hp1
  cases e : lostL n s with
  | nil =>
    have e' : lostF n s.1 s.2.1 = [] := e
    rw [e'] at hp1
    walk_at "w"
    exact k e H1 k1
  | cons g rest =>
    have e' : lostF n s.1 s.2.1 = g :: rest := e
    rw [e'] at hp1
    walk_at "w"
    refine ⟨rfl, fun d hd => hb g rest e d _ (k1.free hd) upd_same (k1.new hd)⟩
def sp_due_nodes (a : AD) : Sp := fun vs H Q E => ∃ (x l r f : Addr) (n : Int) (s : List Int × List Int × List Bool), vs = [.ref x] ∧ LkS a H x l r f n s ∧ WFs n s ∧ ∀ p H', H p = none → Kp [] H H' → H' p = some (.lst ((dueL n s).map V.int)) → Q (.ref p) H'
theorem sc_due_nodes : FnScope ["links", "node"] ["links"] (defScope s_due_nodes) := ⟨rfl, rfl, rfl, by decide +kernel, rfl, by decide +kernel, by decide +kernel⟩
theorem ok_due_nodes {P : Program} {w : World} {K : PySem.W.Frag} {mg : Str → Option Value} {base : Heap} {a : AD} (T : Txt P K mg a) (G_is_due : FnA P w K mg base 5 a.f_is_due ["links", "node"] (sp_is_due a)) : FnA P w K mg base 6 a.f_due_nodes ["links"] (sp_due_nodes a) := by
  obtain ⟨fd, F, b⟩ := T.F_due_nodes
  refine FnA.of F sc_due_nodes b (fun vs H Q E h => by first | (obtain ⟨rfl, _⟩ := h; rfl) | (obtain ⟨_, rfl, _⟩ := h; rfl) | (obtain ⟨_, _, rfl, _⟩ := h; rfl) | (obtain ⟨_, _, _, rfl, _⟩ := h; rfl) | (obtain ⟨_, _, _, _, rfl, _⟩ := h; rfl) | (obtain ⟨_, _, _, _, _, rfl, _⟩ := h; rfl) | (obtain ⟨_, _, _, _, _, _, rfl, _⟩ := h; rfl) | (obtain ⟨_, _, _, _, _, _, _, rfl, _⟩ := h; rfl) | (obtain ⟨_, _, _, _, _, _, _, _, rfl, _⟩ := h; rfl) | (obtain ⟨_, _, _, _, _, _, _, _, _, rfl, _⟩ := h; rfl) | (obtain ⟨_, _, _, _, _, _, _, _, _, _, rfl, _⟩ := h; rfl) | (obtain ⟨_, _, _, _, _, _, _, _, _, _, _, rfl, _⟩ := h; rfl) | (obtain ⟨_, _, _, _, _, _, _, _, _, _, _, _, rfl, _⟩ := h; rfl) | (obtain ⟨_, _, _, _, _, _, _, _, _, _, _, _, _, rfl, _⟩ := h; rfl) | (obtain ⟨_, _, _, _, _, _, _, _, _, _, _, _, _, _, rfl, _⟩ := h; rfl) | (obtain ⟨_, _, _, _, _, _, _, _, _, _, _, _, _, _, _, rfl, _⟩ := h; rfl) | (obtain ⟨_, _, _, _, _, _, _, _, _, _, _, _, _, _, _, _, rfl, _⟩ := h; rfl) | (obtain ⟨_, _, _, _, _, _, _, _, _, _, _, _, _, _, _, _, _, rfl, _⟩ := h; rfl) | (obtain ⟨_, _, _, _, _, _, _, _, _, _, _, _, _, _, _, _, _, _, rfl, _⟩ := h; rfl) | (obtain ⟨_, _, _, _, _, _, _, _, _, _, _, _, _, _, _, _, _, _, _, rfl, _⟩ := h; rfl) | (obtain ⟨_, _, _, _, _, _, _, _, _, _, _, _, _, _, _, _, _, _, _, _, rfl, _⟩ := h; rfl) | (obtain ⟨_, _, _, _, _, _, _, _, _, _, _, _, _, _, _, _, _, _, _, _, _, rfl, _⟩ := h; rfl) | (obtain ⟨_, _, _, _, _, _, _, _, _, _, _, _, _, _, _, _, _, _, _, _, _, _, rfl, _⟩ := h; rfl) | (obtain ⟨_, _, _, _, _, _, _, _, _, _, _, _, _, _, _, _, _, _, _, _, _, _, _, rfl, _⟩ := h; rfl)) (fun cdv A outer s H vs Q E hr tk pz h => ?_)
  have hu := hr.units
  have hrH := L2H.roomH_of hr
  obtain ⟨x, l, r, f, n, s, rfl, hL, W, k⟩ := h
  refine ⟨_, (pss_one (ps_ret (pe_lc (own := [("node", 1)]) (g := (gName 1)) rfl sc_due_nodes.nd (pi_range2 rfl T.b_range (pa_cons pe_int (pa_cons (pe_op o_add (pe_fld (pv 0) rfl) pe_int) pa_nil))) (blkOk_by (own := [("node", 1)]) (N := ["links", "node"]) (sc := defScope s_due_nodes) (by decide +kernel)) (fun _ _ _ _ _ => (pg_name (i := 1) sc_due_nodes.nd rfl (Or.inl rfl))) (fun _ _ _ _ _ => (pts_one (show PT _ _ (cTru K _) from (pt_tru (pe_callA G_is_due (Room.mono hr (by decide)) T.n_is_due takes0 (pa_cons (pv 0) (pa_cons (pv 1) pa_nil))))))) (fun _ _ _ _ _ => (pv 1))))), ?_⟩
  show (_ : Ends → L2.St → Hp → Prop) _ [some _, none] _
  try dsimp only [L2H.cxH, cxOf]
  have n0 := WF.n0 W
  have n1 := WF.n1 W
  have hx := hL.1.choose_spec
  walk_at "w"
  refine w_lcR2 (f' := V.int) (fun i : Nat => if dueP s (1 + (i : Int)) then some (1 + (i : Int)) else none) (lo := 1) (n := n + 1) (by omega) (by omega) (by omega) (by omega) (by rw [sizeLine_eq]; omega) ?_ ?_
  · intro D i acc H' hD hi hk hA hlen
    walk_at "w"
    refine ⟨rfl, ?_⟩
    walk_at "w"
    refine ⟨x, l, r, f, n, 1 + (i : Int), s, rfl, hL.kp0 hk, W, by omega, by omega, ?_⟩
    walk_at "w"
    refine w_ite (fun c => ?_) (fun c => ?_)
    · walk_at "w"
      exact w_keep hk hA hlen hD (by rw [if_pos c])
    · walk_at "w"
      exact w_drop hk hA (by rw [if_neg c])
  · intro D H' hD hk hA
    rw [show (n + 1 - 1).toNat = n.toNat by omega] at hA
    exact k D H' hD hk hA
def sp_settled_debt (a : AD) : Sp := fun vs H Q E => ∃ (x l r f : Addr) (n : Int) (s : List Int × List Int × List Bool), vs = [.ref x] ∧ LkS a H x l r f n s ∧ WFs n s ∧ (lostL n s = [] → ∀ H', Kp [] H H' → Q (.int (debtF n s)) H') ∧ (lostL n s ≠ [] → ∀ H', Kp [] H H' → Q .non H')
theorem sc_settled_debt : FnScope ["links", "node"] ["links"] (defScope s_settled_debt) := ⟨rfl, rfl, rfl, by decide +kernel, rfl, by decide +kernel, by decide +kernel⟩
theorem ok_settled_debt {P : Program} {w : World} {K : PySem.W.Frag} {mg : Str → Option Value} {base : Heap} {a : AD} (T : Txt P K mg a) (G_is_repairable : FnA P w K mg base 7 a.f_is_repairable ["links"] (sp_is_repairable a)) (G__share : FnA P w K mg base 3 a.f__share ["links", "node"] (sp__share a)) (G_due_nodes : FnA P w K mg base 6 a.f_due_nodes ["links"] (sp_due_nodes a)) : FnA P w K mg base 8 a.f_settled_debt ["links"] (sp_settled_debt a) := by
  obtain ⟨fd, F, b⟩ := T.F_settled_debt
  refine FnA.of F sc_settled_debt b (fun vs H Q E h => by first | (obtain ⟨rfl, _⟩ := h; rfl) | (obtain ⟨_, rfl, _⟩ := h; rfl) | (obtain ⟨_, _, rfl, _⟩ := h; rfl) | (obtain ⟨_, _, _, rfl, _⟩ := h; rfl) | (obtain ⟨_, _, _, _, rfl, _⟩ := h; rfl) | (obtain ⟨_, _, _, _, _, rfl, _⟩ := h; rfl) | (obtain ⟨_, _, _, _, _, _, rfl, _⟩ := h; rfl) | (obtain ⟨_, _, _, _, _, _, _, rfl, _⟩ := h; rfl) | (obtain ⟨_, _, _, _, _, _, _, _, rfl, _⟩ := h; rfl) | (obtain ⟨_, _, _, _, _, _, _, _, _, rfl, _⟩ := h; rfl) | (obtain ⟨_, _, _, _, _, _, _, _, _, _, rfl, _⟩ := h; rfl) | (obtain ⟨_, _, _, _, _, _, _, _, _, _, _, rfl, _⟩ := h; rfl) | (obtain ⟨_, _, _, _, _, _, _, _, _, _, _, _, rfl, _⟩ := h; rfl) | (obtain ⟨_, _, _, _, _, _, _, _, _, _, _, _, _, rfl, _⟩ := h; rfl) | (obtain ⟨_, _, _, _, _, _, _, _, _, _, _, _, _, _, rfl, _⟩ := h; rfl) | (obtain ⟨_, _, _, _, _, _, _, _, _, _, _, _, _, _, _, rfl, _⟩ := h; rfl) | (obtain ⟨_, _, _, _, _, _, _, _, _, _, _, _, _, _, _, _, rfl, _⟩ := h; rfl) | (obtain ⟨_, _, _, _, _, _, _, _, _, _, _, _, _, _, _, _, _, rfl, _⟩ := h; rfl) | (obtain ⟨_, _, _, _, _, _, _, _, _, _, _, _, _, _, _, _, _, _, rfl, _⟩ := h; rfl) | (obtain ⟨_, _, _, _, _, _, _, _, _, _, _, _, _, _, _, _, _, _, _, rfl, _⟩ := h; rfl) | (obtain ⟨_, _, _, _, _, _, _, _, _, _, _, _, _, _, _, _, _, _, _, _, rfl, _⟩ := h; rfl) | (obtain ⟨_, _, _, _, _, _, _, _, _, _, _, _, _, _, _, _, _, _, _, _, _, rfl, _⟩ := h; rfl) | (obtain ⟨_, _, _, _, _, _, _, _, _, _, _, _, _, _, _, _, _, _, _, _, _, _, rfl, _⟩ := h; rfl) | (obtain ⟨_, _, _, _, _, _, _, _, _, _, _, _, _, _, _, _, _, _, _, _, _, _, _, rfl, _⟩ := h; rfl)) (fun cdv A outer s H vs Q E hr tk pz h => ?_)
  have hu := hr.units
  have hrH := L2H.roomH_of hr
  obtain ⟨x, l, r, f, n, s, rfl, hL, W, k1, k2⟩ := h
  refine ⟨_, (pss_cons (ps_if (pt_not (pt_tru (pe_callA G_is_repairable (Room.mono hr (by decide)) T.n_is_repairable tk (pa_cons (pv 0) pa_nil)))) (pss_one (ps_ret pe_non)) pss_nil)
      (pss_one (ps_ret (pe_callB (cr_sum rfl) rfl T.b_sum (by decide +kernel) (pa_cons (pe_lc (own := [("node", 1)]) (g := (gName 1)) (tt := tYes) rfl sc_settled_debt.nd (pi_list (pe_callA G_due_nodes (Room.mono hr (by decide)) T.n_due_nodes tk (pa_cons (pv 0) pa_nil))) (blkOk_by (own := [("node", 1)]) (N := ["links", "node"]) (sc := defScope s_settled_debt) (by decide +kernel)) (fun _ _ _ _ _ => (pg_name (i := 1) sc_settled_debt.nd rfl (Or.inl rfl))) (fun _ _ _ _ _ => pts_nil) (fun _ _ _ _ _ => (pe_callA G__share (Room.mono hr (by decide)) T.n__share takes0 (pa_cons (pv 0) (pa_cons (pv 1) pa_nil))))) pa_nil))))), ?_⟩
  show (_ : Ends → L2.St → Hp → Prop) _ [some _, none] _
  try dsimp only [L2H.cxH, cxOf]
  have n1 := WF.n1 W
  walk_at "w"
  refine ⟨x, l, r, f, n, s, rfl, hL, W, fun H1 q1 => ?_⟩
  by_cases c : lostL n s = []
  · rw [show decide (lostL n s = []) = true by simpa using c]
    walk_at "w"
    refine ⟨x, l, r, f, n, s, rfl, hL.kp0 q1, W, fun p H2 hp q2 hp2 => ?_⟩
    have hdl := dueL_len n s
    have hL2 := (hL.kp0 q1).kp0 q2
    walk_at "w"
    refine w_lcM (f := V.int) (f' := V.int) (fun v => some (shareF s v)) hp2 (by rw [sizeLine_eq]; omega) ?_ ?_
    · intro D i u acc H' hD hu hk hA hlen
      have hv := dueL_in u (List.mem_of_getElem? hu)
      walk_at "w"
      refine ⟨rfl, ?_⟩
      walk_at "w"
      refine ⟨x, l, r, f, n, u, s, rfl, hL2.kp0 hk, W, hv.1, hv.2.1, ?_⟩
      exact w_keep hk hA hlen hD rfl
    · intro D H' hD hk hA
      rw [fm_some] at hA
      walk_at "w"
      exact k1 c H' ((q1.trans0 q2).trans0 hk)
  · rw [show decide (lostL n s = []) = false by simpa using c]
    walk_at "w"
    exact k2 c H1 q1
def sp_debt_of (a : AD) : Sp := fun vs H Q E => ∃ (x l r f : Addr) (n : Int) (s : List Int × List Int × List Bool), vs = [.ref x] ∧ LkS a H x l r f n s ∧ WFs n s ∧ (∀ g rest, lostL n s = g :: rest → xNotRepairable a (.int g) E H) ∧ (lostL n s = [] → ∀ H', Kp [] H H' → Q (.int (debtF n s)) H')
theorem sc_debt_of : FnScope ["links"] ["links"] (defScope s_debt_of) := ⟨rfl, rfl, rfl, by decide +kernel, rfl, by decide +kernel, by decide +kernel⟩
theorem ok_debt_of {P : Program} {w : World} {K : PySem.W.Frag} {mg : Str → Option Value} {base : Heap} {a : AD} (T : Txt P K mg a) (G_check_repairable : FnA P w K mg base 7 a.f_check_repairable ["links"] (sp_check_repairable a)) (G_settled_debt : FnA P w K mg base 8 a.f_settled_debt ["links"] (sp_settled_debt a)) : FnA P w K mg base 9 a.f_debt_of ["links"] (sp_debt_of a) := by
  obtain ⟨fd, F, b⟩ := T.F_debt_of
  refine FnA.of F sc_debt_of b (fun vs H Q E h => by first | (obtain ⟨rfl, _⟩ := h; rfl) | (obtain ⟨_, rfl, _⟩ := h; rfl) | (obtain ⟨_, _, rfl, _⟩ := h; rfl) | (obtain ⟨_, _, _, rfl, _⟩ := h; rfl) | (obtain ⟨_, _, _, _, rfl, _⟩ := h; rfl) | (obtain ⟨_, _, _, _, _, rfl, _⟩ := h; rfl) | (obtain ⟨_, _, _, _, _, _, rfl, _⟩ := h; rfl) | (obtain ⟨_, _, _, _, _, _, _, rfl, _⟩ := h; rfl) | (obtain ⟨_, _, _, _, _, _, _, _, rfl, _⟩ := h; rfl) | (obtain ⟨_, _, _, _, _, _, _, _, _, rfl, _⟩ := h; rfl) | (obtain ⟨_, _, _, _, _, _, _, _, _, _, rfl, _⟩ := h; rfl) | (obtain ⟨_, _, _, _, _, _, _, _, _, _, _, rfl, _⟩ := h; rfl) | (obtain ⟨_, _, _, _, _, _, _, _, _, _, _, _, rfl, _⟩ := h; rfl) | (obtain ⟨_, _, _, _, _, _, _, _, _, _, _, _, _, rfl, _⟩ := h; rfl) | (obtain ⟨_, _, _, _, _, _, _, _, _, _, _, _, _, _, rfl, _⟩ := h; rfl) | (obtain ⟨_, _, _, _, _, _, _, _, _, _, _, _, _, _, _, rfl, _⟩ := h; rfl) | (obtain ⟨_, _, _, _, _, _, _, _, _, _, _, _, _, _, _, _, rfl, _⟩ := h; rfl) | (obtain ⟨_, _, _, _, _, _, _, _, _, _, _, _, _, _, _, _, _, rfl, _⟩ := h; rfl) | (obtain ⟨_, _, _, _, _, _, _, _, _, _, _, _, _, _, _, _, _, _, rfl, _⟩ := h; rfl) | (obtain ⟨_, _, _, _, _, _, _, _, _, _, _, _, _, _, _, _, _, _, _, rfl, _⟩ := h; rfl) | (obtain ⟨_, _, _, _, _, _, _, _, _, _, _, _, _, _, _, _, _, _, _, _, rfl, _⟩ := h; rfl) | (obtain ⟨_, _, _, _, _, _, _, _, _, _, _, _, _, _, _, _, _, _, _, _, _, rfl, _⟩ := h; rfl) | (obtain ⟨_, _, _, _, _, _, _, _, _, _, _, _, _, _, _, _, _, _, _, _, _, _, rfl, _⟩ := h; rfl) | (obtain ⟨_, _, _, _, _, _, _, _, _, _, _, _, _, _, _, _, _, _, _, _, _, _, _, rfl, _⟩ := h; rfl)) (fun cdv A outer s H vs Q E hr tk pz h => ?_)
  have hu := hr.units
  have hrH := L2H.roomH_of hr
  obtain ⟨x, l, r, f, n, s, rfl, hL, W, hb, k⟩ := h
  refine ⟨_, (pss_cons (ps_expr (pe_callA G_check_repairable (Room.mono hr (by decide)) T.n_check_repairable tk (pa_cons (pv 0) pa_nil)))
      (pss_one (ps_ret (pe_callA G_settled_debt (Room.mono hr (by decide)) T.n_settled_debt tk (pa_cons (pv 0) pa_nil))))), ?_⟩
  show (_ : Ends → L2.St → Hp → Prop) _ [some _] _
  try dsimp only [L2H.cxH, cxOf]
  walk_at "w"
  refine ⟨x, l, r, f, n, s, rfl, hL, W, hb, fun c H1 q1 => ?_⟩
  walk_at "w"
  exact ⟨x, l, r, f, n, s, rfl, hL.kp0 q1, W, fun _ H2 q2 => k c H2 (q1.trans0 q2), fun z => absurd c z⟩
/-- can the standing be finished by relinks alone -/
def finB (n : Int) (s : List Int × List Int × List Bool) : Bool := decide (lostL n s = []) && ((dueL n s).map fun v => s.2.2.getD v.toNat default).all id
def sp_can_finish (a : AD) : Sp := fun vs H Q E => ∃ (x l r f : Addr) (n : Int) (s : List Int × List Int × List Bool), vs = [.ref x] ∧ LkS a H x l r f n s ∧ WFs n s ∧ ∀ H', Kp [] H H' → Q (.bl (finB n s)) H'
/-- all in -/
def allIn (n : Int) (F : List Bool) : Prop := ∀ v : Nat, 1 ≤ v → (v : Int) ≤ n → F.getD v default = false
def allJ (n : Int) (s : List Int × List Int × List Bool) : Prop := ∀ g : Int, 0 ≤ g → g ≤ n → stateOf s.1 s.2.1 g = ("joined" : Str)
def sp_Links_is_sound (a : AD) : Sp := fun vs H Q E => ∃ (x l r f : Addr) (n : Int) (s : List Int × List Int × List Bool) (b : Bool), vs = [.ref x] ∧ LkS a H x l r f n s ∧ WFs n s ∧ allIn n s.2.2 ∧ (b = true ↔ allJ n s) ∧ Q (.bl b) H
theorem sc_Links_is_sound : FnScope ["self", "last", "node"] ["self"] (defScope s_Links_is_sound) := ⟨rfl, rfl, rfl, by decide +kernel, rfl, by decide +kernel, by decide +kernel⟩
theorem ok_Links_is_sound {P : Program} {w : World} {K : PySem.W.Frag} {mg : Str → Option Value} {base : Heap} {a : AD} (T : Txt P K mg a) : FnA P w K mg base 2 a.f_Links_is_sound ["self"] (sp_Links_is_sound a) := by
  obtain ⟨fd, F, b⟩ := T.F_Links_is_sound
  refine FnA.of F sc_Links_is_sound b (fun vs H Q E h => by first | (obtain ⟨rfl, _⟩ := h; rfl) | (obtain ⟨_, rfl, _⟩ := h; rfl) | (obtain ⟨_, _, rfl, _⟩ := h; rfl) | (obtain ⟨_, _, _, rfl, _⟩ := h; rfl) | (obtain ⟨_, _, _, _, rfl, _⟩ := h; rfl) | (obtain ⟨_, _, _, _, _, rfl, _⟩ := h; rfl) | (obtain ⟨_, _, _, _, _, _, rfl, _⟩ := h; rfl) | (obtain ⟨_, _, _, _, _, _, _, rfl, _⟩ := h; rfl) | (obtain ⟨_, _, _, _, _, _, _, _, rfl, _⟩ := h; rfl) | (obtain ⟨_, _, _, _, _, _, _, _, _, rfl, _⟩ := h; rfl) | (obtain ⟨_, _, _, _, _, _, _, _, _, _, rfl, _⟩ := h; rfl) | (obtain ⟨_, _, _, _, _, _, _, _, _, _, _, rfl, _⟩ := h; rfl) | (obtain ⟨_, _, _, _, _, _, _, _, _, _, _, _, rfl, _⟩ := h; rfl) | (obtain ⟨_, _, _, _, _, _, _, _, _, _, _, _, _, rfl, _⟩ := h; rfl) | (obtain ⟨_, _, _, _, _, _, _, _, _, _, _, _, _, _, rfl, _⟩ := h; rfl) | (obtain ⟨_, _, _, _, _, _, _, _, _, _, _, _, _, _, _, rfl, _⟩ := h; rfl) | (obtain ⟨_, _, _, _, _, _, _, _, _, _, _, _, _, _, _, _, rfl, _⟩ := h; rfl) | (obtain ⟨_, _, _, _, _, _, _, _, _, _, _, _, _, _, _, _, _, rfl, _⟩ := h; rfl) | (obtain ⟨_, _, _, _, _, _, _, _, _, _, _, _, _, _, _, _, _, _, rfl, _⟩ := h; rfl) | (obtain ⟨_, _, _, _, _, _, _, _, _, _, _, _, _, _, _, _, _, _, _, rfl, _⟩ := h; rfl) | (obtain ⟨_, _, _, _, _, _, _, _, _, _, _, _, _, _, _, _, _, _, _, _, rfl, _⟩ := h; rfl) | (obtain ⟨_, _, _, _, _, _, _, _, _, _, _, _, _, _, _, _, _, _, _, _, _, rfl, _⟩ := h; rfl) | (obtain ⟨_, _, _, _, _, _, _, _, _, _, _, _, _, _, _, _, _, _, _, _, _, _, rfl, _⟩ := h; rfl) | (obtain ⟨_, _, _, _, _, _, _, _, _, _, _, _, _, _, _, _, _, _, _, _, _, _, _, rfl, _⟩ := h; rfl)) (fun cdv A outer s H vs Q E hr tk pz h => ?_)
  have hu := hr.units
  have hrH := L2H.roomH_of hr
  obtain ⟨x, l, r, f, n, s, b, rfl, hL, W, hin, hb, k⟩ := h
  refine ⟨_, (pss_cons (ps_set (i := 1) sc_Links_is_sound.nd rfl (Or.inl rfl) pe_int)
      (pss_cons (ps_for pz rfl (pi_range2 rfl T.b_range (pa_cons pe_int (pa_cons (pe_op o_add (pe_fld (pv 0) rfl) pe_int) pa_nil))) (pg_name (i := 2) sc_Links_is_sound.nd rfl (Or.inl rfl))
      (pss_one (ps_if (pt_not (pt_tru (pe_ix ix_seq (pe_fld (pv 0) rfl) (pv 2) (fun _ _ => rfl)))) (pss_cons (ps_if (PW.pt (pw_or (pt_cmpA (o_ne hu) (pe_ix ix_seq (pe_fld (pv 0) rfl) (pv 1) (fun _ _ => rfl)) (pv 2) (nomark _)) (pw_or1 (pt_cmpA (o_ne hu) (pe_ix ix_seq (pe_fld (pv 0) rfl) (pv 2) (fun _ _ => rfl)) (pv 1) (nomark _))))) (pss_one (ps_ret pe_bl)) pss_nil)
      (pss_one (ps_set (i := 1) sc_Links_is_sound.nd rfl (Or.inl rfl) (pv 2)))) pss_nil)))
      (pss_one (ps_ret pe_bl)))), ?_⟩
  show (_ : Ends → L2.St → Hp → Prop) _ [some _, none, none] _
  try dsimp only [L2H.cxH, cxOf]
  have n0 := WF.n0 W
  have n1 := WF.n1 W
  have hF := WF.hF W
  have hR := WF.hR W
  have hLl := WF.hL W
  have hf1 := WF.f1 W
  obtain ⟨⟨dx, hx⟩, hl, hr', hf, _⟩ := id hL
  have hRl : (s.1 ++ [n + 2]).length = (n + 2).toNat := by rw [List.length_append, hR]; simp; omega
  walk_at "w"
  refine w_rng2 (lo := 1) (n := n + 2) (by omega) (by omega) (by omega) (by omega) (fun i σ' H' => (∃ z, σ' = [some (.ref x), some (.int (i : Int)), z]) ∧ H' = H ∧ ∀ g : Int, 0 ≤ g → g < (i : Int) → stateOf s.1 s.2.1 g = ("joined" : Str)) ⟨⟨_, rfl⟩, rfl, fun g h1 h2 => by omega⟩ ?_ ?_
  · rintro i σ' H1 hi ⟨⟨z, rfl⟩, e, hj⟩
    subst e
    have hfl : s.2.2.getD (1 + (i : Int)).toNat default = false := by
      by_cases c : (i : Int) < n
      · exact hin _ (by omega) (by omega)
      · rw [show (1 + (i : Int)).toNat = (n + 1).toNat by omega]
        exact hf1
    walk_at "w"
    rw [Int.toNat_natCast, gd_app (by omega)]
    have js : stateOf s.1 s.2.1 (i : Int) = ("joined" : Str) ↔ s.1.getD i default = 1 + (i : Int) ∧ s.2.1.getD (1 + (i : Int)).toNat default = (i : Int) := by
      rw [state_joined, Int.toNat_natCast, Int.add_comm (i : Int) 1]
    have bad : ¬(s.1.getD i default = 1 + (i : Int) ∧ s.2.1.getD (1 + (i : Int)).toNat default = (i : Int)) → b = false := by
      intro z
      cases b with
      | false => rfl
      | true => exact absurd (js.mp (hb.mp rfl (i : Int) (by omega) (by omega))) z
    refine w_iteN (fun c1 => ?_) (fun c1 => ?_)
    · walk_at "w"
      rw [bad (fun z => c1 z.1)] at k
      exact k
    walk_at "w"
    refine w_iteN (fun c2 => ?_) (fun c2 => ?_)
    · walk_at "w"
      rw [bad (fun z => c2 z.2)] at k
      exact k
    walk_at "w"
    refine ⟨⟨_, by rw [show ((i + 1 : Nat) : Int) = 1 + (i : Int) by omega]; rfl⟩, rfl, fun g h1 h2 => ?_⟩
    by_cases z : g < (i : Int)
    · exact hj g h1 z
    · obtain rfl : g = (i : Int) := by omega
      exact js.mpr ⟨c1, c2⟩
  · rintro σ' H1 ⟨⟨z, rfl⟩, e, hj⟩
    subst e
    walk_at "w"
    have : b = true := hb.mpr fun g g0 g1 => hj g g0 (by omega)
    rw [this] at k
    exact k
def sp_Links_is_whole (a : AD) : Sp := fun vs H Q E => ∃ (x l r f : Addr) (n : Int) (s : List Int × List Int × List Bool) (b : Bool), vs = [.ref x] ∧ LkS a H x l r f n s ∧ WFs n s ∧ (b = true ↔ allIn n s.2.2 ∧ allJ n s) ∧ ∀ H', Kp [] H H' → Q (.bl b) H'
theorem sc_Links_is_whole : FnScope ["self"] ["self"] (defScope s_Links_is_whole) := ⟨rfl, rfl, rfl, by decide +kernel, rfl, by decide +kernel, by decide +kernel⟩
theorem ok_Links_is_whole {P : Program} {w : World} {K : PySem.W.Frag} {mg : Str → Option Value} {base : Heap} {a : AD} (T : Txt P K mg a) (G_Links_outs : FnA P w K mg base 2 a.f_Links_outs ["self"] (sp_Links_outs a)) (G_Links_is_sound : FnA P w K mg base 2 a.f_Links_is_sound ["self"] (sp_Links_is_sound a)) : FnA P w K mg base 3 a.f_Links_is_whole ["self"] (sp_Links_is_whole a) := by
  obtain ⟨fd, F, b⟩ := T.F_Links_is_whole
  refine FnA.of F sc_Links_is_whole b (fun vs H Q E h => by first | (obtain ⟨rfl, _⟩ := h; rfl) | (obtain ⟨_, rfl, _⟩ := h; rfl) | (obtain ⟨_, _, rfl, _⟩ := h; rfl) | (obtain ⟨_, _, _, rfl, _⟩ := h; rfl) | (obtain ⟨_, _, _, _, rfl, _⟩ := h; rfl) | (obtain ⟨_, _, _, _, _, rfl, _⟩ := h; rfl) | (obtain ⟨_, _, _, _, _, _, rfl, _⟩ := h; rfl) | (obtain ⟨_, _, _, _, _, _, _, rfl, _⟩ := h; rfl) | (obtain ⟨_, _, _, _, _, _, _, _, rfl, _⟩ := h; rfl) | (obtain ⟨_, _, _, _, _, _, _, _, _, rfl, _⟩ := h; rfl) | (obtain ⟨_, _, _, _, _, _, _, _, _, _, rfl, _⟩ := h; rfl) | (obtain ⟨_, _, _, _, _, _, _, _, _, _, _, rfl, _⟩ := h; rfl) | (obtain ⟨_, _, _, _, _, _, _, _, _, _, _, _, rfl, _⟩ := h; rfl) | (obtain ⟨_, _, _, _, _, _, _, _, _, _, _, _, _, rfl, _⟩ := h; rfl) | (obtain ⟨_, _, _, _, _, _, _, _, _, _, _, _, _, _, rfl, _⟩ := h; rfl) | (obtain ⟨_, _, _, _, _, _, _, _, _, _, _, _, _, _, _, rfl, _⟩ := h; rfl) | (obtain ⟨_, _, _, _, _, _, _, _, _, _, _, _, _, _, _, _, rfl, _⟩ := h; rfl) | (obtain ⟨_, _, _, _, _, _, _, _, _, _, _, _, _, _, _, _, _, rfl, _⟩ := h; rfl) | (obtain ⟨_, _, _, _, _, _, _, _, _, _, _, _, _, _, _, _, _, _, rfl, _⟩ := h; rfl) | (obtain ⟨_, _, _, _, _, _, _, _, _, _, _, _, _, _, _, _, _, _, _, rfl, _⟩ := h; rfl) | (obtain ⟨_, _, _, _, _, _, _, _, _, _, _, _, _, _, _, _, _, _, _, _, rfl, _⟩ := h; rfl) | (obtain ⟨_, _, _, _, _, _, _, _, _, _, _, _, _, _, _, _, _, _, _, _, _, rfl, _⟩ := h; rfl) | (obtain ⟨_, _, _, _, _, _, _, _, _, _, _, _, _, _, _, _, _, _, _, _, _, _, rfl, _⟩ := h; rfl) | (obtain ⟨_, _, _, _, _, _, _, _, _, _, _, _, _, _, _, _, _, _, _, _, _, _, _, rfl, _⟩ := h; rfl)) (fun cdv A outer s H vs Q E hr tk pz h => ?_)
  have hu := hr.units
  have hrH := L2H.roomH_of hr
  obtain ⟨x, l, r, f, n, s, b, rfl, hL, W, hb, k⟩ := h
  refine ⟨_, (pss_one (ps_ret (pe_and (pe_cmpR (o_eq hu) (pe_callB (b_len) rfl T.b_len (by decide +kernel) (pa_cons (pe_methS0 (pl := _) G_Links_outs (Room.mono hr (by decide)) T.cl_Links T.me_Links_outs tk (pv 0)) pa_nil)) pe_int (nomark _)) (pe_one (pe_methS0 (pl := _) G_Links_is_sound (Room.mono hr (by decide)) T.cl_Links T.me_Links_is_sound tk (pv 0)))))), ?_⟩
  show (_ : Ends → L2.St → Hp → Prop) _ [some _] _
  try dsimp only [L2H.cxH, cxOf]
  have n0 := WF.n0 W
  have n1 := WF.n1 W
  obtain ⟨⟨dx, hx⟩, _⟩ := id hL
  walk_at "w"
  refine ⟨x, l, r, f, n, s, rfl, hL, W, fun p H1 hp k1 hp1 => ?_⟩
  have hx1 := k1.at0 hx
  have ho := outL_nil (n := n) (F := s.2.2)
  walk_at "w"
  by_cases c : allIn n s.2.2
  · rw [ho.mpr c]
    walk_at "w"
    exact ⟨x, l, r, f, n, s, b, rfl, hL.kp0 k1, W, c, ⟨fun z => (hb.mp z).2, fun z => hb.mpr ⟨c, z⟩⟩, k H1 k1⟩
  · have hne : (outL n s.2.2).length ≠ 0 := fun z => c (ho.mp (List.length_eq_zero_iff.mp z))
    have eb : b = false := by
      cases b with
      | false => rfl
      | true => exact absurd (hb.mp rfl).1 c
    rw [eb] at k
    walk_at "w"
    exact k H1 k1

/-! ### draws -/
def Bx (H : Hp) (b q : Addr) : Prop := ∃ (ns : List Int) (big seed c : Int), H b = some (.lst [.int big, .int seed, .int c, .ref q]) ∧ H q = some (.lst (ns.map V.int)) ∧ q ≠ b
theorem Bx.kp {H H' : Hp} {b q : Addr} (B : Bx H b q) (k : Kp [] H H') : Bx H' b q := by
  obtain ⟨ns, big, seed, c, h1, h2, h3⟩ := B
  exact ⟨ns, big, seed, c, k.at0 h1, k.at0 h2, h3⟩
theorem Bx.kpm {ms : List Addr} {H H' : Hp} {b q : Addr} (B : Bx H b q) (k : Kp ms H H') (s : ∀ y ∈ [b, q], y ∉ ms) : Bx H' b q := by
  obtain ⟨ns, big, seed, c, h1, h2, h3⟩ := B
  exact ⟨ns, big, seed, c, k.at h1 (s b (by simp)), k.at h2 (s q (by simp)), h3⟩
theorem Bx.live {H : Hp} {b q : Addr} (B : Bx H b q) : ∀ y ∈ [b, q], ∃ o, H y = some o := by
  obtain ⟨ns, big, seed, c, h1, h2, h3⟩ := B
  intro y hy
  simp only [List.mem_cons, List.mem_nil_iff, or_false] at hy
  rcases hy with rfl | rfl
  · exact ⟨_, h1⟩
  · exact ⟨_, h2⟩
theorem Bx.off {H : Hp} {b q p : Addr} (B : Bx H b q) (h : H p = none) : p ∉ [b, q] := fun z => by
  obtain ⟨o, e⟩ := B.live p z
  rw [h] at e; cases e
/-- an address that was free before the draws is free of the box -/
theorem Kp.freeB {H H' : Hp} {b q r : Addr} (k : Kp [b, q] H H') (B : Bx H' b q) (h : H' r = none) : H r = none := k.freeM h B.live
def sp__law_mixed (a : AD) : Sp := fun vs H Q _ => ∃ (x y : Int), vs = [.int x, .int y] ∧ ∀ r : Int, Q (.int r) H
theorem sc__law_mixed : FnScope ["_law_cell", "_law_turn", "_law_first", "_law_second"] ["_law_cell", "_law_turn"] (defScope s__law_mixed) := ⟨rfl, rfl, rfl, by decide +kernel, rfl, by decide +kernel, by decide +kernel⟩
theorem ok__law_mixed {P : Program} {w : World} {K : PySem.W.Frag} {mg : Str → Option Value} {base : Heap} {a : AD} (T : Txt P K mg a) : FnA P w K mg base 2 a.f__law_mixed ["_law_cell", "_law_turn"] (sp__law_mixed a) := by
  obtain ⟨fd, F, b⟩ := T.F__law_mixed
  refine FnA.of F sc__law_mixed b (fun vs H Q E h => by first | (obtain ⟨rfl, _⟩ := h; rfl) | (obtain ⟨_, rfl, _⟩ := h; rfl) | (obtain ⟨_, _, rfl, _⟩ := h; rfl) | (obtain ⟨_, _, _, rfl, _⟩ := h; rfl) | (obtain ⟨_, _, _, _, rfl, _⟩ := h; rfl) | (obtain ⟨_, _, _, _, _, rfl, _⟩ := h; rfl) | (obtain ⟨_, _, _, _, _, _, rfl, _⟩ := h; rfl) | (obtain ⟨_, _, _, _, _, _, _, rfl, _⟩ := h; rfl) | (obtain ⟨_, _, _, _, _, _, _, _, rfl, _⟩ := h; rfl) | (obtain ⟨_, _, _, _, _, _, _, _, _, rfl, _⟩ := h; rfl) | (obtain ⟨_, _, _, _, _, _, _, _, _, _, rfl, _⟩ := h; rfl) | (obtain ⟨_, _, _, _, _, _, _, _, _, _, _, rfl, _⟩ := h; rfl) | (obtain ⟨_, _, _, _, _, _, _, _, _, _, _, _, rfl, _⟩ := h; rfl) | (obtain ⟨_, _, _, _, _, _, _, _, _, _, _, _, _, rfl, _⟩ := h; rfl) | (obtain ⟨_, _, _, _, _, _, _, _, _, _, _, _, _, _, rfl, _⟩ := h; rfl) | (obtain ⟨_, _, _, _, _, _, _, _, _, _, _, _, _, _, _, rfl, _⟩ := h; rfl) | (obtain ⟨_, _, _, _, _, _, _, _, _, _, _, _, _, _, _, _, rfl, _⟩ := h; rfl) | (obtain ⟨_, _, _, _, _, _, _, _, _, _, _, _, _, _, _, _, _, rfl, _⟩ := h; rfl) | (obtain ⟨_, _, _, _, _, _, _, _, _, _, _, _, _, _, _, _, _, _, rfl, _⟩ := h; rfl) | (obtain ⟨_, _, _, _, _, _, _, _, _, _, _, _, _, _, _, _, _, _, _, rfl, _⟩ := h; rfl) | (obtain ⟨_, _, _, _, _, _, _, _, _, _, _, _, _, _, _, _, _, _, _, _, rfl, _⟩ := h; rfl) | (obtain ⟨_, _, _, _, _, _, _, _, _, _, _, _, _, _, _, _, _, _, _, _, _, rfl, _⟩ := h; rfl) | (obtain ⟨_, _, _, _, _, _, _, _, _, _, _, _, _, _, _, _, _, _, _, _, _, _, rfl, _⟩ := h; rfl) | (obtain ⟨_, _, _, _, _, _, _, _, _, _, _, _, _, _, _, _, _, _, _, _, _, _, _, rfl, _⟩ := h; rfl)) (fun cdv A outer s H vs Q E hr tk pz h => ?_)
  have hu := hr.units
  have hrH := L2H.roomH_of hr
  obtain ⟨x, y, rfl, k⟩ := h
  refine ⟨_, (pss_cons (ps_set (i := 2) sc__law_mixed.nd rfl (Or.inl rfl) (pe_op op_mod (pe_callTy b_intA rfl T.b_int (by decide +kernel) (pa_cons (pe_op o_add (pe_op o_add (pe_op o_mul (pv 0) pe_int) (pe_op o_mul (pv 1) pe_int)) pe_int) pa_nil)) pe_int))
      (pss_cons (ps_set (i := 3) sc__law_mixed.nd rfl (Or.inl rfl) (pe_op op_mod (pe_callTy b_intA rfl T.b_int (by decide +kernel) (pa_cons (pe_op o_add (pe_op o_add (pe_op o_mul (pv 2) (pv 2)) (pe_op o_mul (pv 1) pe_int)) pe_int) pa_nil)) pe_int))
      (pss_one (ps_ret (pe_op op_fdiv (pe_op op_mod (pe_callTy b_intA rfl T.b_int (by decide +kernel) (pa_cons (pe_op o_add (pe_op o_mul (pv 3) (pv 3)) (pv 2)) pa_nil)) pe_int) pe_int))))), ?_⟩
  show (_ : Ends → L2.St → Hp → Prop) _ [some _, some _, none, none] _
  try dsimp only [L2H.cxH, cxOf]
  walk_at "w"
  exact k _
def drSp (b q : Addr) (H : Hp) (Q : VK) (m : Int) : Prop := ∀ (r : Int) (H' : Hp), 0 ≤ r → r < m → Bx H' b q → Kp [b, q] H H' → Q (.int r) H'
def sp__law_take (a : AD) : Sp := fun vs H Q _ => ∃ (b q : Addr) (m : Int), vs = [.ref b, .int m] ∧ Bx H b q ∧ 0 < m ∧ m < 1073741824 ∧ drSp b q H Q m
theorem sc__law_take : FnScope ["_law_box_here", "_law_many", "_law_cells", "_law_cell", "_law_digit"] ["_law_box_here", "_law_many"] (defScope s__law_take) := ⟨rfl, rfl, rfl, by decide +kernel, rfl, by decide +kernel, by decide +kernel⟩
theorem ok__law_take {P : Program} {w : World} {K : PySem.W.Frag} {mg : Str → Option Value} {base : Heap} {a : AD} (T : Txt P K mg a) (G__law_mixed : FnA P w K mg base 2 a.f__law_mixed ["_law_cell", "_law_turn"] (sp__law_mixed a)) : FnA P w K mg base 3 a.f__law_take ["_law_box_here", "_law_many"] (sp__law_take a) := by
  obtain ⟨fd, F, b⟩ := T.F__law_take
  refine FnA.of F sc__law_take b (fun vs H Q E h => by first | (obtain ⟨rfl, _⟩ := h; rfl) | (obtain ⟨_, rfl, _⟩ := h; rfl) | (obtain ⟨_, _, rfl, _⟩ := h; rfl) | (obtain ⟨_, _, _, rfl, _⟩ := h; rfl) | (obtain ⟨_, _, _, _, rfl, _⟩ := h; rfl) | (obtain ⟨_, _, _, _, _, rfl, _⟩ := h; rfl) | (obtain ⟨_, _, _, _, _, _, rfl, _⟩ := h; rfl) | (obtain ⟨_, _, _, _, _, _, _, rfl, _⟩ := h; rfl) | (obtain ⟨_, _, _, _, _, _, _, _, rfl, _⟩ := h; rfl) | (obtain ⟨_, _, _, _, _, _, _, _, _, rfl, _⟩ := h; rfl) | (obtain ⟨_, _, _, _, _, _, _, _, _, _, rfl, _⟩ := h; rfl) | (obtain ⟨_, _, _, _, _, _, _, _, _, _, _, rfl, _⟩ := h; rfl) | (obtain ⟨_, _, _, _, _, _, _, _, _, _, _, _, rfl, _⟩ := h; rfl) | (obtain ⟨_, _, _, _, _, _, _, _, _, _, _, _, _, rfl, _⟩ := h; rfl) | (obtain ⟨_, _, _, _, _, _, _, _, _, _, _, _, _, _, rfl, _⟩ := h; rfl) | (obtain ⟨_, _, _, _, _, _, _, _, _, _, _, _, _, _, _, rfl, _⟩ := h; rfl) | (obtain ⟨_, _, _, _, _, _, _, _, _, _, _, _, _, _, _, _, rfl, _⟩ := h; rfl) | (obtain ⟨_, _, _, _, _, _, _, _, _, _, _, _, _, _, _, _, _, rfl, _⟩ := h; rfl) | (obtain ⟨_, _, _, _, _, _, _, _, _, _, _, _, _, _, _, _, _, _, rfl, _⟩ := h; rfl) | (obtain ⟨_, _, _, _, _, _, _, _, _, _, _, _, _, _, _, _, _, _, _, rfl, _⟩ := h; rfl) | (obtain ⟨_, _, _, _, _, _, _, _, _, _, _, _, _, _, _, _, _, _, _, _, rfl, _⟩ := h; rfl) | (obtain ⟨_, _, _, _, _, _, _, _, _, _, _, _, _, _, _, _, _, _, _, _, _, rfl, _⟩ := h; rfl) | (obtain ⟨_, _, _, _, _, _, _, _, _, _, _, _, _, _, _, _, _, _, _, _, _, _, rfl, _⟩ := h; rfl) | (obtain ⟨_, _, _, _, _, _, _, _, _, _, _, _, _, _, _, _, _, _, _, _, _, _, _, rfl, _⟩ := h; rfl)) (fun cdv A outer s H vs Q E hr tk pz h => ?_)
  have hu := hr.units
  have hrH := L2H.roomH_of hr
  obtain ⟨b, q, m, rfl, ⟨ns, big, seed, c, hb, hq, hqb⟩, hm0, hm1, k⟩ := h
  refine ⟨_, (pss_cons (ps_set (i := 2) sc__law_take.nd rfl (Or.inl rfl) (pe_ix ix_seq (pv 0) pe_int (fun _ _ => rfl)))
      (pss_cut (ps_if (PW.pt (pw_and (pt_cmpA op_lt (pe_ix ix_seq (pv 0) pe_int (fun _ _ => rfl)) pe_int (nomark _)) (pw_and1 (pt_cmpA op_gt (pe_callB (b_len) rfl T.b_len (by decide +kernel) (pa_cons (pv 2) pa_nil)) pe_int (nomark _))))) (pss_cons (ps_set (i := 3) sc__law_take.nd rfl (Or.inl rfl) (pe_bm PySem.F.plainAttrs_list PySem.F.slot_list_pop PySem.F.type_list_pop mt_popAt (pv 2) (pa_cons pe_int pa_nil)))
      (pss_cons (ps_if (pt_cmpA op_lt (pv 3) (pe_op op_pow pe_int pe_int) (nomark _)) (pss_cons (ps_asg (pe_op o_add (pe_ix ix_seq (pv 0) pe_int (fun _ _ => rfl)) pe_int) (pg_sub (pv 0) pe_int set_list))
      (pss_one (ps_ret (pe_op op_mod (pe_callTy b_intA rfl T.b_int (by decide +kernel) (pa_cons (pe_callA G__law_mixed (Room.mono hr (by decide)) T.n__law_mixed tk (pa_cons (pv 3) (pa_cons (pe_ix ix_seq (pv 0) pe_int (fun _ _ => rfl)) pa_nil))) pa_nil)) (pv 1))))) pss_nil)
      (pss_one (ps_asg (pv 3) (pg_sub (pv 0) pe_int set_list))))) pss_nil)
      (pss_cons (ps_if (pt_cmpA op_gt (pe_ix ix_seq (pv 0) pe_int (fun _ _ => rfl)) pe_int (nomark _)) (pss_cons (ps_set (i := 4) sc__law_take.nd rfl (Or.inl rfl) (pe_op op_mod (pe_callTy b_intA rfl T.b_int (by decide +kernel) (pa_cons (pe_ix ix_seq (pv 0) pe_int (fun _ _ => rfl)) pa_nil)) (pv 1)))
      (pss_cons (ps_asg (pe_op op_fdiv (pe_ix ix_seq (pv 0) pe_int (fun _ _ => rfl)) (pv 1)) (pg_sub (pv 0) pe_int set_list))
      (pss_one (ps_ret (pv 4))))) pss_nil)
      (pss_cons (ps_asg (pe_op o_add (pe_ix ix_seq (pv 0) pe_int (fun _ _ => rfl)) pe_int) (pg_sub (pv 0) pe_int set_list))
      (pss_one (ps_ret (pe_op op_mod (pe_callTy b_intA rfl T.b_int (by decide +kernel) (pa_cons (pe_callA G__law_mixed (Room.mono hr (by decide)) T.n__law_mixed tk (pa_cons (pe_ix ix_seq (pv 0) pe_int (fun _ _ => rfl)) (pa_cons (pe_ix ix_seq (pv 0) pe_int (fun _ _ => rfl)) pa_nil))) pa_nil)) (pv 1)))))))), ?_⟩
  show (_ : Ends → L2.St → Hp → Prop) _ [some _, some _, none, none, none] _
  try dsimp only [L2H.cxH, cxOf]
  have kb : ∀ {H' : Hp} {o : HO}, Kp [b, q] H H' → Kp [b, q] H (upd H' b o) := fun h => h.mut (by simp)
  have kq : ∀ {H' : Hp} {o : HO}, Kp [b, q] H H' → Kp [b, q] H (upd H' q o) := fun h => h.mut (by simp)
  walk_at "w"
  refine s_cut (fun σ' H' => ∃ (z3 z4 : Option V) (ns : List Int) (big seed c : Int), σ' = [some (.ref b), some (.int m), some (.ref q), z3, z4] ∧ H' b = some (.lst [.int big, .int seed, .int c, .ref q]) ∧ H' q = some (.lst (ns.map V.int)) ∧ Kp [b, q] H H') ?_ ?_
  · walk_at "w"
    refine w_ite (fun c1 => ?_) (fun c1 => ?_)
    · walk_at "w"
      refine w_ite (fun c2 => ?_) (fun c2 => ?_)
      · walk_at "w"
        refine w_ite (fun c3 => ?_) (fun c3 => ?_)
        · walk_at "w"
          refine ⟨_, _, rfl, fun r => ?_⟩
          walk_at "w"
          exact k _ _ (Int.emod_nonneg _ (by omega)) (Int.emod_lt_of_pos _ hm0) ⟨_, _, _, _, upd_same, upd_get hqb upd_same, hqb⟩ (kb (kq Kp.refl))
        · walk_at "w"
          exact ⟨_, _, ns.drop 1, _, _, _, rfl, upd_same, upd_get hqb upd_same, kb (kq Kp.refl)⟩
      · walk_at "w"
        exact ⟨_, _, ns, _, _, _, rfl, hb, hq, Kp.refl⟩
    · walk_at "w"
      exact ⟨_, _, ns, _, _, _, rfl, hb, hq, Kp.refl⟩
  clear hb hq
  rintro σ' H' ⟨z3, z4, ns, big, seed, c, rfl, hb, hq, hk⟩
  walk_at "w"
  refine w_ite (fun c1 => ?_) (fun c1 => ?_)
  · walk_at "w"
    exact k _ _ (Int.emod_nonneg _ (by omega)) (Int.emod_lt_of_pos _ hm0) ⟨_, _, _, _, upd_same, upd_get hqb hq, hqb⟩ (kb hk)
  · walk_at "w"
    refine ⟨_, _, rfl, fun r => ?_⟩
    walk_at "w"
    exact k _ _ (Int.emod_nonneg _ (by omega)) (Int.emod_lt_of_pos _ hm0) ⟨_, _, _, _, upd_same, upd_get hqb hq, hqb⟩ (kb hk)
def sp__law_size (a : AD) : Sp := fun vs H Q _ => ∃ (b q : Addr), vs = [.ref b] ∧ Bx H b q ∧ drSp b q H Q 61
theorem sc__law_size : FnScope ["_law_box_here", "_law_way"] ["_law_box_here"] (defScope s__law_size) := ⟨rfl, rfl, rfl, by decide +kernel, rfl, by decide +kernel, by decide +kernel⟩
theorem ok__law_size {P : Program} {w : World} {K : PySem.W.Frag} {mg : Str → Option Value} {base : Heap} {a : AD} (T : Txt P K mg a) (G__law_take : FnA P w K mg base 3 a.f__law_take ["_law_box_here", "_law_many"] (sp__law_take a)) : FnA P w K mg base 4 a.f__law_size ["_law_box_here"] (sp__law_size a) := by
  obtain ⟨fd, F, b⟩ := T.F__law_size
  refine FnA.of F sc__law_size b (fun vs H Q E h => by first | (obtain ⟨rfl, _⟩ := h; rfl) | (obtain ⟨_, rfl, _⟩ := h; rfl) | (obtain ⟨_, _, rfl, _⟩ := h; rfl) | (obtain ⟨_, _, _, rfl, _⟩ := h; rfl) | (obtain ⟨_, _, _, _, rfl, _⟩ := h; rfl) | (obtain ⟨_, _, _, _, _, rfl, _⟩ := h; rfl) | (obtain ⟨_, _, _, _, _, _, rfl, _⟩ := h; rfl) | (obtain ⟨_, _, _, _, _, _, _, rfl, _⟩ := h; rfl) | (obtain ⟨_, _, _, _, _, _, _, _, rfl, _⟩ := h; rfl) | (obtain ⟨_, _, _, _, _, _, _, _, _, rfl, _⟩ := h; rfl) | (obtain ⟨_, _, _, _, _, _, _, _, _, _, rfl, _⟩ := h; rfl) | (obtain ⟨_, _, _, _, _, _, _, _, _, _, _, rfl, _⟩ := h; rfl) | (obtain ⟨_, _, _, _, _, _, _, _, _, _, _, _, rfl, _⟩ := h; rfl) | (obtain ⟨_, _, _, _, _, _, _, _, _, _, _, _, _, rfl, _⟩ := h; rfl) | (obtain ⟨_, _, _, _, _, _, _, _, _, _, _, _, _, _, rfl, _⟩ := h; rfl) | (obtain ⟨_, _, _, _, _, _, _, _, _, _, _, _, _, _, _, rfl, _⟩ := h; rfl) | (obtain ⟨_, _, _, _, _, _, _, _, _, _, _, _, _, _, _, _, rfl, _⟩ := h; rfl) | (obtain ⟨_, _, _, _, _, _, _, _, _, _, _, _, _, _, _, _, _, rfl, _⟩ := h; rfl) | (obtain ⟨_, _, _, _, _, _, _, _, _, _, _, _, _, _, _, _, _, _, rfl, _⟩ := h; rfl) | (obtain ⟨_, _, _, _, _, _, _, _, _, _, _, _, _, _, _, _, _, _, _, rfl, _⟩ := h; rfl) | (obtain ⟨_, _, _, _, _, _, _, _, _, _, _, _, _, _, _, _, _, _, _, _, rfl, _⟩ := h; rfl) | (obtain ⟨_, _, _, _, _, _, _, _, _, _, _, _, _, _, _, _, _, _, _, _, _, rfl, _⟩ := h; rfl) | (obtain ⟨_, _, _, _, _, _, _, _, _, _, _, _, _, _, _, _, _, _, _, _, _, _, rfl, _⟩ := h; rfl) | (obtain ⟨_, _, _, _, _, _, _, _, _, _, _, _, _, _, _, _, _, _, _, _, _, _, _, rfl, _⟩ := h; rfl)) (fun cdv A outer s H vs Q E hr tk pz h => ?_)
  have hu := hr.units
  have hrH := L2H.roomH_of hr
  obtain ⟨b, q, rfl, B, k⟩ := h
  refine ⟨_, (pss_cons (ps_set (i := 1) sc__law_size.nd rfl (Or.inl rfl) (pe_callA G__law_take (Room.mono hr (by decide)) T.n__law_take tk (pa_cons (pv 0) (pa_cons pe_int pa_nil))))
      (pss_cons (ps_if (pt_cmpA (o_eq hu) (pv 1) pe_int (nomark _)) (pss_one (ps_ret (pe_op o_add pe_int (pe_callA G__law_take (Room.mono hr (by decide)) T.n__law_take tk (pa_cons (pv 0) (pa_cons pe_int pa_nil)))))) pss_nil)
      (pss_cons (ps_if (pt_cmpA (o_eq hu) (pv 1) pe_int (nomark _)) (pss_one (ps_ret (pe_op o_add pe_int (pe_callA G__law_take (Room.mono hr (by decide)) T.n__law_take tk (pa_cons (pv 0) (pa_cons pe_int pa_nil)))))) pss_nil)
      (pss_one (ps_ret (pe_ix ix_seq (pe_lst (pa_cons pe_int (pa_cons pe_int (pa_cons pe_int (pa_cons pe_int (pa_cons pe_int (pa_cons pe_int (pa_cons pe_int (pa_cons pe_int (pa_cons pe_int (pa_cons pe_int (pa_cons pe_int (pa_cons pe_int (pa_cons pe_int (pa_cons pe_int pa_nil))))))))))))))) (pv 1) (fun _ _ => rfl))))))), ?_⟩
  show (_ : Ends → L2.St → Hp → Prop) _ [some _, none] _
  try dsimp only [L2H.cxH, cxOf]
  walk_at "w"
  refine ⟨b, q, 16, rfl, B, by omega, by omega, fun y H1 y0 y1 B1 k1 => ?_⟩
  walk_at "w"
  refine w_ite (fun c1 => ?_) (fun c1 => ?_)
  · walk_at "w"
    refine ⟨b, q, 48, rfl, B1, by omega, by omega, fun x H2 x0 x1 B2 k2 => ?_⟩
    walk_at "w"
    exact k _ _ (by omega) (by omega) B2 (k1.trans k2)
  · walk_at "w"
    refine w_ite (fun c2 => ?_) (fun c2 => ?_)
    · walk_at "w"
      refine ⟨b, q, 6, rfl, B1, by omega, by omega, fun x H2 x0 x1 B2 k2 => ?_⟩
      walk_at "w"
      exact k _ _ (by omega) (by omega) B2 (k1.trans k2)
    · walk_at "w"
      intro t ht
      have e : (HO.lst [.int 0, .int 1, .int 2, .int 3, .int 3, .int 4, .int 4, .int 4, .int 5, .int 5, .int 5, .int 6, .int 6, .int 6]) = .lst (([0, 1, 2, 3, 3, 4, 4, 4, 5, 5, 5, 6, 6, 6] : List Int).map V.int) := rfl
      rw [e]
      have hx : ∀ y ∈ ([0, 1, 2, 3, 3, 4, 4, 4, 5, 5, 5, 6, 6, 6] : List Int), 0 ≤ y ∧ y ≤ 6 := by decide
      have hg : 0 ≤ ([0, 1, 2, 3, 3, 4, 4, 4, 5, 5, 5, 6, 6, 6] : List Int).getD y.toNat default ∧ ([0, 1, 2, 3, 3, 4, 4, 4, 5, 5, 5, 6, 6, 6] : List Int).getD y.toNat default ≤ 6 := by
        refine hx _ ?_
        rw [List.getD_eq_getElem?_getD, List.getElem?_eq_getElem (by simp; omega)]
        exact List.getElem_mem _
      have kt := Kp.refl.new (ms := []) (o := .lst (([0, 1, 2, 3, 3, 4, 4, 4, 5, 5, 5, 6, 6, 6] : List Int).map V.int)) ht
      have ht1 : upd H1 t (.lst (([0, 1, 2, 3, 3, 4, 4, 4, 5, 5, 5, 6, 6, 6] : List Int).map V.int)) t = some (.lst (([0, 1, 2, 3, 3, 4, 4, 4, 5, 5, 5, 6, 6, 6] : List Int).map V.int)) := upd_same
      have hl : ([0, 1, 2, 3, 3, 4, 4, 4, 5, 5, 5, 6, 6, 6] : List Int).length = 14 := rfl
      generalize ([0, 1, 2, 3, 3, 4, 4, 4, 5, 5, 5, 6, 6, 6] : List Int) = ws at hg kt ht1 hl ⊢
      generalize upd H1 t (.lst (ws.map V.int)) = H2 at kt ht1 ⊢
      walk_at "w"
      exact k _ _ hg.1 (by omega) (B1.kp kt) (k1.trans0 kt)
def sp__law_range (a : AD) : Sp := fun vs H Q _ => ∃ (b q : Addr) (n : Int), vs = [.ref b, .int n] ∧ Bx H b q ∧ 0 ≤ n ∧ n ≤ 60 ∧ ∀ (p : Addr) (lo hi : Int) (H' : Hp), 1 ≤ lo → hi ≤ n → (1 ≤ n → lo ≤ hi) → (n = 0 → lo = 1 ∧ hi = 0) → H p = none → H' p = some (.lst ([lo, hi].map V.int)) → Bx H' b q → Kp [b, q] H H' → Q (.ref p) H'
theorem sc__law_range : FnScope ["_law_box_here", "_law_size_here", "_law_low"] ["_law_box_here", "_law_size_here"] (defScope s__law_range) := ⟨rfl, rfl, rfl, by decide +kernel, rfl, by decide +kernel, by decide +kernel⟩
theorem ok__law_range {P : Program} {w : World} {K : PySem.W.Frag} {mg : Str → Option Value} {base : Heap} {a : AD} (T : Txt P K mg a) (G__law_take : FnA P w K mg base 3 a.f__law_take ["_law_box_here", "_law_many"] (sp__law_take a)) : FnA P w K mg base 4 a.f__law_range ["_law_box_here", "_law_size_here"] (sp__law_range a) := by
  obtain ⟨fd, F, b⟩ := T.F__law_range
  refine FnA.of F sc__law_range b (fun vs H Q E h => by first | (obtain ⟨rfl, _⟩ := h; rfl) | (obtain ⟨_, rfl, _⟩ := h; rfl) | (obtain ⟨_, _, rfl, _⟩ := h; rfl) | (obtain ⟨_, _, _, rfl, _⟩ := h; rfl) | (obtain ⟨_, _, _, _, rfl, _⟩ := h; rfl) | (obtain ⟨_, _, _, _, _, rfl, _⟩ := h; rfl) | (obtain ⟨_, _, _, _, _, _, rfl, _⟩ := h; rfl) | (obtain ⟨_, _, _, _, _, _, _, rfl, _⟩ := h; rfl) | (obtain ⟨_, _, _, _, _, _, _, _, rfl, _⟩ := h; rfl) | (obtain ⟨_, _, _, _, _, _, _, _, _, rfl, _⟩ := h; rfl) | (obtain ⟨_, _, _, _, _, _, _, _, _, _, rfl, _⟩ := h; rfl) | (obtain ⟨_, _, _, _, _, _, _, _, _, _, _, rfl, _⟩ := h; rfl) | (obtain ⟨_, _, _, _, _, _, _, _, _, _, _, _, rfl, _⟩ := h; rfl) | (obtain ⟨_, _, _, _, _, _, _, _, _, _, _, _, _, rfl, _⟩ := h; rfl) | (obtain ⟨_, _, _, _, _, _, _, _, _, _, _, _, _, _, rfl, _⟩ := h; rfl) | (obtain ⟨_, _, _, _, _, _, _, _, _, _, _, _, _, _, _, rfl, _⟩ := h; rfl) | (obtain ⟨_, _, _, _, _, _, _, _, _, _, _, _, _, _, _, _, rfl, _⟩ := h; rfl) | (obtain ⟨_, _, _, _, _, _, _, _, _, _, _, _, _, _, _, _, _, rfl, _⟩ := h; rfl) | (obtain ⟨_, _, _, _, _, _, _, _, _, _, _, _, _, _, _, _, _, _, rfl, _⟩ := h; rfl) | (obtain ⟨_, _, _, _, _, _, _, _, _, _, _, _, _, _, _, _, _, _, _, rfl, _⟩ := h; rfl) | (obtain ⟨_, _, _, _, _, _, _, _, _, _, _, _, _, _, _, _, _, _, _, _, rfl, _⟩ := h; rfl) | (obtain ⟨_, _, _, _, _, _, _, _, _, _, _, _, _, _, _, _, _, _, _, _, _, rfl, _⟩ := h; rfl) | (obtain ⟨_, _, _, _, _, _, _, _, _, _, _, _, _, _, _, _, _, _, _, _, _, _, rfl, _⟩ := h; rfl) | (obtain ⟨_, _, _, _, _, _, _, _, _, _, _, _, _, _, _, _, _, _, _, _, _, _, _, rfl, _⟩ := h; rfl)) (fun cdv A outer s H vs Q E hr tk pz h => ?_)
  have hu := hr.units
  have hrH := L2H.roomH_of hr
  obtain ⟨b, q, n, rfl, B, n0, n1, k⟩ := h
  refine ⟨_, (pss_cons (ps_if (PW.pt (pw_or (pt_cmpA op_lt (pv 1) pe_int (nomark _)) (pw_or1 (pt_cmpA (o_eq hu) (pe_callA G__law_take (Room.mono hr (by decide)) T.n__law_take tk (pa_cons (pv 0) (pa_cons pe_int pa_nil))) pe_int (nomark _))))) (pss_one (ps_ret (pe_lst (pa_cons pe_int (pa_cons (pv 1) pa_nil))))) pss_nil)
      (pss_cons (ps_set (i := 2) sc__law_range.nd rfl (Or.inl rfl) (pe_op o_add pe_int (pe_callA G__law_take (Room.mono hr (by decide)) T.n__law_take tk (pa_cons (pv 0) (pa_cons (pe_op op_sub (pv 1) pe_int) pa_nil)))))
      (pss_one (ps_ret (pe_lst (pa_cons (pv 2) (pa_cons (pe_callB (b_min2 rfl) rfl T.b_min (by decide +kernel) (pa_cons (pv 1) (pa_cons (pe_op o_add (pe_op o_add (pv 2) pe_int) (pe_callA G__law_take (Room.mono hr (by decide)) T.n__law_take tk (pa_cons (pv 0) (pa_cons pe_int pa_nil)))) pa_nil))) pa_nil))))))), ?_⟩
  show (_ : Ends → L2.St → Hp → Prop) _ [some _, some _, none] _
  try dsimp only [L2H.cxH, cxOf]
  walk_at "w"
  refine w_ite (fun c1 => ?_) (fun c1 => ?_)
  · walk_at "w"
    intro p hp
    exact k p 1 n _ (by omega) (by omega) (fun _ => by omega) (fun z => ⟨rfl, z⟩) hp upd_same (B.kp (Kp.refl.new hp)) (Kp.refl.new hp)
  · walk_at "w"
    refine ⟨b, q, 2, rfl, B, by omega, by omega, fun y H1 y0 y1 B1 k1 => ?_⟩
    walk_at "w"
    refine w_ite (fun c2 => ?_) (fun c2 => ?_)
    · walk_at "w"
      intro p hp
      exact k p 1 n _ (by omega) (by omega) (fun _ => by omega) (fun z => ⟨rfl, z⟩) (k1.freeB B1 hp) upd_same (B1.kp (Kp.refl.new hp)) (k1.new hp)
    · walk_at "w"
      refine ⟨b, q, _, rfl, B1, by omega, by omega, fun x H2 x0 x1 B2 k2 => ?_⟩
      walk_at "w"
      refine ⟨b, q, 5, rfl, B2, by omega, by omega, fun z H3 z0 z1 B3 k3 => ?_⟩
      walk_at "w"
      intro p hp
      refine k p (1 + x) (min n (1 + x + 3 + z)) _ (by omega) (by omega) (fun _ => by omega) (fun z => absurd z (by omega)) ((((k1.trans k2).trans k3)).freeB B3 hp) ?_ (B3.kp (Kp.refl.new hp)) (((k1.trans k2).trans k3).new hp)
      exact upd_same

/-! ### the law's book -/
theorem SqL.kp' {K : PySem.W.Frag} {H H' : Hp} {p : Addr} {xs : List V} (h : SqL K H p xs) (k : Kp [] H H') : SqL K H' p xs := by
  rcases h with h | h
  · rcases h with h | ⟨o, h⟩
    · exact .inl (.inl (k.at0 h))
    · exact .inl (.inr ⟨o, k.at0 h⟩)
  · exact .inr h
abbrev St3 := List Int × List Int × List Bool
def sp__law_box (K : PySem.W.Frag) (a : AD) : Sp := fun vs H Q _ => ∃ (p : Addr) (ns : List Int), vs = [.ref p] ∧ SqL K H p (ns.map V.int) ∧ ∀ (b q : Addr) (H' : Hp), H b = none → H q = none → Bx H' b q → Kp [] H H' → Q (.ref b) H'
theorem sc__law_box : FnScope ["_law_script", "_law_seed", "_law_cell"] ["_law_script"] (defScope s__law_box) := ⟨rfl, rfl, rfl, by decide +kernel, rfl, by decide +kernel, by decide +kernel⟩
theorem ok__law_box {P : Program} {w : World} {K : PySem.W.Frag} {mg : Str → Option Value} {base : Heap} {a : AD} (T : Txt P K mg a) : FnA P w K mg base 2 a.f__law_box ["_law_script"] (sp__law_box K a) := by
  obtain ⟨fd, F, b⟩ := T.F__law_box
  refine FnA.of F sc__law_box b (fun vs H Q E h => by first | (obtain ⟨rfl, _⟩ := h; rfl) | (obtain ⟨_, rfl, _⟩ := h; rfl) | (obtain ⟨_, _, rfl, _⟩ := h; rfl) | (obtain ⟨_, _, _, rfl, _⟩ := h; rfl) | (obtain ⟨_, _, _, _, rfl, _⟩ := h; rfl) | (obtain ⟨_, _, _, _, _, rfl, _⟩ := h; rfl) | (obtain ⟨_, _, _, _, _, _, rfl, _⟩ := h; rfl) | (obtain ⟨_, _, _, _, _, _, _, rfl, _⟩ := h; rfl) | (obtain ⟨_, _, _, _, _, _, _, _, rfl, _⟩ := h; rfl) | (obtain ⟨_, _, _, _, _, _, _, _, _, rfl, _⟩ := h; rfl) | (obtain ⟨_, _, _, _, _, _, _, _, _, _, rfl, _⟩ := h; rfl) | (obtain ⟨_, _, _, _, _, _, _, _, _, _, _, rfl, _⟩ := h; rfl) | (obtain ⟨_, _, _, _, _, _, _, _, _, _, _, _, rfl, _⟩ := h; rfl) | (obtain ⟨_, _, _, _, _, _, _, _, _, _, _, _, _, rfl, _⟩ := h; rfl) | (obtain ⟨_, _, _, _, _, _, _, _, _, _, _, _, _, _, rfl, _⟩ := h; rfl) | (obtain ⟨_, _, _, _, _, _, _, _, _, _, _, _, _, _, _, rfl, _⟩ := h; rfl) | (obtain ⟨_, _, _, _, _, _, _, _, _, _, _, _, _, _, _, _, rfl, _⟩ := h; rfl) | (obtain ⟨_, _, _, _, _, _, _, _, _, _, _, _, _, _, _, _, _, rfl, _⟩ := h; rfl) | (obtain ⟨_, _, _, _, _, _, _, _, _, _, _, _, _, _, _, _, _, _, rfl, _⟩ := h; rfl) | (obtain ⟨_, _, _, _, _, _, _, _, _, _, _, _, _, _, _, _, _, _, _, rfl, _⟩ := h; rfl) | (obtain ⟨_, _, _, _, _, _, _, _, _, _, _, _, _, _, _, _, _, _, _, _, rfl, _⟩ := h; rfl) | (obtain ⟨_, _, _, _, _, _, _, _, _, _, _, _, _, _, _, _, _, _, _, _, _, rfl, _⟩ := h; rfl) | (obtain ⟨_, _, _, _, _, _, _, _, _, _, _, _, _, _, _, _, _, _, _, _, _, _, rfl, _⟩ := h; rfl) | (obtain ⟨_, _, _, _, _, _, _, _, _, _, _, _, _, _, _, _, _, _, _, _, _, _, _, rfl, _⟩ := h; rfl)) (fun cdv A outer s H vs Q E hr tk pz h => ?_)
  have hu := hr.units
  have hrH := L2H.roomH_of hr
  obtain ⟨p, ns, rfl, hp, k⟩ := h
  refine ⟨_, (pss_cons (ps_set (i := 1) sc__law_box.nd rfl (Or.inl rfl) pe_int)
      (pss_cons (ps_for pz rfl (pi_list (pe_slice sl_any (pv 0) po_none (po_some pe_int))) (pg_name (i := 2) sc__law_box.nd rfl (Or.inl rfl))
      (pss_one (ps_set (i := 1) sc__law_box.nd rfl (Or.inl rfl) (pe_op op_mod (pe_callTy b_intA rfl T.b_int (by decide +kernel) (pa_cons (pe_op o_add (pe_op o_add (pe_op o_mul (pv 1) pe_int) (pv 2)) pe_int) pa_nil)) pe_int))))
      (pss_one (ps_ret (pe_lst (pa_cons pe_int (pa_cons (pv 1) (pa_cons pe_int (pa_cons (pe_callTy b_list rfl T.b_list (by decide +kernel) (pa_cons (pe_slice sl_any (pv 0) po_none (po_some pe_int)) pa_nil)) pa_nil))))))))), ?_⟩
  show (_ : Ends → L2.St → Hp → Prop) _ [some _, none, none] _
  try dsimp only [L2H.cxH, cxOf]
  walk_at "w"
  intro l hl
  have kl := Kp.refl.new (ms := []) (o := .lst ((cut ns none (some 63)).map V.int)) hl
  have hl1 : upd H l (.lst ((cut ns none (some 63)).map V.int)) l = some (.lst ((cut ns none (some 63)).map V.int)) := upd_same
  generalize upd H l (.lst ((cut ns none (some 63)).map V.int)) = H1 at kl hl1 ⊢
  refine w_forM (us := cut ns none (some 63)) (f := V.int) (p := l) hl1 (fun i σ' H' => ∃ (s : Int) (z : Option V), σ' = [some (.ref p), some (.int s), z] ∧ Kp [] H1 H') ⟨0, _, rfl, Kp.refl⟩ (fun i σ' H' _ h => by obtain ⟨_, _, _, h⟩ := h; exact h.at0 hl1) ?_ ?_
  · rintro i u σ' H2 hu ⟨s, z, rfl, k2⟩
    walk_at "w"
    exact ⟨_, _, rfl, k2⟩
  · rintro σ' H2 ⟨s, z, rfl, k2⟩
    have hp2 := SqL.kp' (SqL.kp' hp kl) k2
    have k02 := kl.trans0 k2
    walk_at "w"
    intro t ht
    walk_at "w"
    intro r hr
    walk_at "w"
    intro b hb
    have hr0 := k02.free (upd_nil hr)
    have hb0 := k02.free (upd_nil (upd_nil hb))
    exact k b r _ hb0 hr0 ⟨_, _, _, _, upd_same, upd_new hb upd_same, ne_of_none upd_same hb⟩ (((k02.new ht).new hr).new hb)
def Wl (H : Hp) (w l r g : Addr) (n : Int) (s : St3) (st : List Int) : Prop := H w = some (.lst [.ref l, .ref r, .ref g]) ∧ H l = some (.lst (s.2.1.map V.int)) ∧ H r = some (.lst ((s.1 ++ [n + 2]).map V.int)) ∧ H g = some (.lst (st.map V.int)) ∧ w ≠ l ∧ w ≠ r ∧ w ≠ g ∧ l ≠ r ∧ l ≠ g ∧ r ≠ g
theorem Wl.kp0 {H H' : Hp} {w l r g : Addr} {n : Int} {s : St3} {st : List Int} (h : Wl H w l r g n s st) (k : Kp [] H H') : Wl H' w l r g n s st :=
  ⟨k.at0 h.1, k.at0 h.2.1, k.at0 h.2.2.1, k.at0 h.2.2.2.1, h.2.2.2.2⟩
theorem Wl.kpS {ms : List Addr} {H H' : Hp} {w l r g : Addr} {n : Int} {s : St3} {st : List Int} (h : Wl H w l r g n s st) (k : Kp ms H H') (z : ∀ y ∈ [w, l, r, g], y ∉ ms) : Wl H' w l r g n s st :=
  ⟨k.at h.1 (z w (by simp)), k.at h.2.1 (z l (by simp)), k.at h.2.2.1 (z r (by simp)), k.at h.2.2.2.1 (z g (by simp)), h.2.2.2.2⟩
theorem Wl.live {H : Hp} {w l r g : Addr} {n : Int} {s : St3} {st : List Int} (h : Wl H w l r g n s st) : ∀ y ∈ [w, l, r, g], ∃ o, H y = some o := by
  obtain ⟨h1, h2, h3, h4, _⟩ := h
  intro y hy
  simp only [List.mem_cons, List.mem_nil_iff, or_false] at hy
  rcases hy with rfl | rfl | rfl | rfl
  · exact ⟨_, h1⟩
  · exact ⟨_, h2⟩
  · exact ⟨_, h3⟩
  · exact ⟨_, h4⟩
theorem set_app {us : List Int} {x u : Int} {i : Nat} (h : i < us.length) : (us ++ [x]).set i u = us.set i u ++ [x] := List.set_append_left _ _ h
def sp__law_start (a : AD) : Sp := fun vs H Q _ => ∃ n : Int, vs = [.int n] ∧ 0 ≤ n ∧ n ≤ 60 ∧ ∀ (w l r g : Addr) (H' : Hp), H w = none → H l = none → H r = none → H g = none → Wl H' w l r g n (s0 n) (List.replicate (n + 2).toNat 0) → Kp [] H H' → Q (.ref w) H'
theorem sc__law_start : FnScope ["_law_size_here", "_law_v"] ["_law_size_here"] (defScope s__law_start) := ⟨rfl, rfl, rfl, by decide +kernel, rfl, by decide +kernel, by decide +kernel⟩
theorem ok__law_start {P : Program} {w : World} {K : PySem.W.Frag} {mg : Str → Option Value} {base : Heap} {a : AD} (T : Txt P K mg a) : FnA P w K mg base 2 a.f__law_start ["_law_size_here"] (sp__law_start a) := by
  obtain ⟨fd, F, b⟩ := T.F__law_start
  refine FnA.of F sc__law_start b (fun vs H Q E h => by first | (obtain ⟨rfl, _⟩ := h; rfl) | (obtain ⟨_, rfl, _⟩ := h; rfl) | (obtain ⟨_, _, rfl, _⟩ := h; rfl) | (obtain ⟨_, _, _, rfl, _⟩ := h; rfl) | (obtain ⟨_, _, _, _, rfl, _⟩ := h; rfl) | (obtain ⟨_, _, _, _, _, rfl, _⟩ := h; rfl) | (obtain ⟨_, _, _, _, _, _, rfl, _⟩ := h; rfl) | (obtain ⟨_, _, _, _, _, _, _, rfl, _⟩ := h; rfl) | (obtain ⟨_, _, _, _, _, _, _, _, rfl, _⟩ := h; rfl) | (obtain ⟨_, _, _, _, _, _, _, _, _, rfl, _⟩ := h; rfl) | (obtain ⟨_, _, _, _, _, _, _, _, _, _, rfl, _⟩ := h; rfl) | (obtain ⟨_, _, _, _, _, _, _, _, _, _, _, rfl, _⟩ := h; rfl) | (obtain ⟨_, _, _, _, _, _, _, _, _, _, _, _, rfl, _⟩ := h; rfl) | (obtain ⟨_, _, _, _, _, _, _, _, _, _, _, _, _, rfl, _⟩ := h; rfl) | (obtain ⟨_, _, _, _, _, _, _, _, _, _, _, _, _, _, rfl, _⟩ := h; rfl) | (obtain ⟨_, _, _, _, _, _, _, _, _, _, _, _, _, _, _, rfl, _⟩ := h; rfl) | (obtain ⟨_, _, _, _, _, _, _, _, _, _, _, _, _, _, _, _, rfl, _⟩ := h; rfl) | (obtain ⟨_, _, _, _, _, _, _, _, _, _, _, _, _, _, _, _, _, rfl, _⟩ := h; rfl) | (obtain ⟨_, _, _, _, _, _, _, _, _, _, _, _, _, _, _, _, _, _, rfl, _⟩ := h; rfl) | (obtain ⟨_, _, _, _, _, _, _, _, _, _, _, _, _, _, _, _, _, _, _, rfl, _⟩ := h; rfl) | (obtain ⟨_, _, _, _, _, _, _, _, _, _, _, _, _, _, _, _, _, _, _, _, rfl, _⟩ := h; rfl) | (obtain ⟨_, _, _, _, _, _, _, _, _, _, _, _, _, _, _, _, _, _, _, _, _, rfl, _⟩ := h; rfl) | (obtain ⟨_, _, _, _, _, _, _, _, _, _, _, _, _, _, _, _, _, _, _, _, _, _, rfl, _⟩ := h; rfl) | (obtain ⟨_, _, _, _, _, _, _, _, _, _, _, _, _, _, _, _, _, _, _, _, _, _, _, rfl, _⟩ := h; rfl)) (fun cdv A outer s H vs Q E hr tk pz h => ?_)
  have hu := hr.units
  have hrH := L2H.roomH_of hr
  obtain ⟨n, rfl, n0, n1, k⟩ := h
  refine ⟨_, (pss_one (ps_ret (pe_lst (pa_cons (pe_lc (own := [("_law_v", 1)]) (g := (gName 1)) (tt := tYes) rfl sc__law_start.nd (pi_range1 rfl T.b_range (pa_cons (pe_op o_add (pv 0) pe_int) pa_nil)) (blkOk_by (own := [("_law_v", 1)]) (N := ["_law_size_here", "_law_v"]) (sc := defScope s__law_start) (by decide +kernel)) (fun _ _ _ _ _ => (pg_name (i := 1) sc__law_start.nd rfl (Or.inl rfl))) (fun _ _ _ _ _ => pts_nil) (fun _ _ _ _ _ => (pe_op op_sub (pv 1) pe_int))) (pa_cons (pe_lc (own := [("_law_v", 1)]) (g := (gName 1)) (tt := tYes) rfl sc__law_start.nd (pi_range1 rfl T.b_range (pa_cons (pe_op o_add (pv 0) pe_int) pa_nil)) (blkOk_by (own := [("_law_v", 1)]) (N := ["_law_size_here", "_law_v"]) (sc := defScope s__law_start) (by decide +kernel)) (fun _ _ _ _ _ => (pg_name (i := 1) sc__law_start.nd rfl (Or.inl rfl))) (fun _ _ _ _ _ => pts_nil) (fun _ _ _ _ _ => (pe_op o_add (pv 1) pe_int))) (pa_cons (pe_op o_mul (pe_lst (pa_cons pe_int pa_nil)) (pe_op o_add (pv 0) pe_int)) pa_nil)))))), ?_⟩
  show (_ : Ends → L2.St → Hp → Prop) _ [some _, none] _
  try dsimp only [L2H.cxH, cxOf]
  walk_at "w"
  refine w_lcR1 (f' := V.int) (fun i : Nat => some ((i : Int) - 1)) (n := n + 2) (by omega) (by omega) (by rw [sizeLine_eq]; omega) ?_ ?_
  · intro D i acc H' hD hi hk hA hlen
    walk_at "w"
    refine ⟨rfl, ?_⟩
    walk_at "w"
    exact w_keep hk hA hlen hD rfl
  intro l H2 hl hk2 hL
  rw [fm_some] at hL
  have hL : H2 l = some (.lst ((l0 n).map V.int)) := hL
  walk_at "w"
  refine w_lcR1 (f' := V.int) (fun i : Nat => some ((i : Int) + 1)) (n := n + 2) (by omega) (by omega) (by rw [sizeLine_eq]; omega) ?_ ?_
  · intro D i acc H' hD hi hk hA hlen
    walk_at "w"
    refine ⟨rfl, ?_⟩
    walk_at "w"
    exact w_keep hk hA hlen hD rfl
  intro r H3 hr hk3 hR
  rw [fm_some, show (n + 2).toNat = (n + 1).toNat + 1 by omega, List.range_succ, List.map_append] at hR
  have hR : H3 r = some (.lst ((r0 n ++ [n + 2]).map V.int)) := by
    rw [hR]
    unfold r0
    rw [List.map_cons, List.map_nil, show ((n + 1).toNat : Int) + 1 = n + 2 by omega]
  walk_at "w"
  intro z hz
  walk_at "w"
  intro g hg
  walk_at "w"
  intro w hw
  have k3 := hk2.trans0 hk3
  have lr : l ≠ r := ne_of_none hL hr
  have hL3 := hk3.at0 hL
  have lg : l ≠ g := ne_of_none (upd_new hz hL3) hg
  have rg : r ≠ g := ne_of_none (upd_new hz hR) hg
  have lw : l ≠ w := ne_of_none (upd_new hg (upd_new hz hL3)) hw
  have rw' : r ≠ w := ne_of_none (upd_new hg (upd_new hz hR)) hw
  have gw : g ≠ w := ne_of_none upd_same hw
  exact k w l r g _ (k3.free (upd_nil (upd_nil hw))) hl (hk2.free hr) (k3.free (upd_nil hg)) ⟨upd_same, upd_new hw (upd_new hg (upd_new hz hL3)), upd_new hw (upd_new hg (upd_new hz hR)), upd_new hw upd_same, Ne.symm lw, Ne.symm rw', Ne.symm gw, lr, lg, rg⟩ (((k3.new hz).new hg).new hw)
def stB (st : List Int) (u : Int) : Bool := decide (st.getD u.toNat default = 2)
def sp__law_late (a : AD) : Sp := fun vs H Q _ => ∃ (w l r g : Addr) (n v : Int) (s : St3) (st : List Int), vs = [.ref w, .int v] ∧ Wl H w l r g n s st ∧ WFs n s ∧ st.length = (n + 2).toNat ∧ 1 ≤ v ∧ v ≤ n ∧ ∀ p H', H p = none → Kp [] H H' → H' p = some (.lst ((lateF s (stB st) v).map V.int)) → Q (.ref p) H'
theorem sc__law_late : FnScope ["_law_book", "_law_node", "_law_gaps", "_law_before", "_law_behind"] ["_law_book", "_law_node"] (defScope s__law_late) := ⟨rfl, rfl, rfl, by decide +kernel, rfl, by decide +kernel, by decide +kernel⟩
theorem ok__law_late {P : Program} {w : World} {K : PySem.W.Frag} {mg : Str → Option Value} {base : Heap} {a : AD} (T : Txt P K mg a) : FnA P w K mg base 2 a.f__law_late ["_law_book", "_law_node"] (sp__law_late a) := by
  obtain ⟨fd, F, b⟩ := T.F__law_late
  refine FnA.of F sc__law_late b (fun vs H Q E h => by first | (obtain ⟨rfl, _⟩ := h; rfl) | (obtain ⟨_, rfl, _⟩ := h; rfl) | (obtain ⟨_, _, rfl, _⟩ := h; rfl) | (obtain ⟨_, _, _, rfl, _⟩ := h; rfl) | (obtain ⟨_, _, _, _, rfl, _⟩ := h; rfl) | (obtain ⟨_, _, _, _, _, rfl, _⟩ := h; rfl) | (obtain ⟨_, _, _, _, _, _, rfl, _⟩ := h; rfl) | (obtain ⟨_, _, _, _, _, _, _, rfl, _⟩ := h; rfl) | (obtain ⟨_, _, _, _, _, _, _, _, rfl, _⟩ := h; rfl) | (obtain ⟨_, _, _, _, _, _, _, _, _, rfl, _⟩ := h; rfl) | (obtain ⟨_, _, _, _, _, _, _, _, _, _, rfl, _⟩ := h; rfl) | (obtain ⟨_, _, _, _, _, _, _, _, _, _, _, rfl, _⟩ := h; rfl) | (obtain ⟨_, _, _, _, _, _, _, _, _, _, _, _, rfl, _⟩ := h; rfl) | (obtain ⟨_, _, _, _, _, _, _, _, _, _, _, _, _, rfl, _⟩ := h; rfl) | (obtain ⟨_, _, _, _, _, _, _, _, _, _, _, _, _, _, rfl, _⟩ := h; rfl) | (obtain ⟨_, _, _, _, _, _, _, _, _, _, _, _, _, _, _, rfl, _⟩ := h; rfl) | (obtain ⟨_, _, _, _, _, _, _, _, _, _, _, _, _, _, _, _, rfl, _⟩ := h; rfl) | (obtain ⟨_, _, _, _, _, _, _, _, _, _, _, _, _, _, _, _, _, rfl, _⟩ := h; rfl) | (obtain ⟨_, _, _, _, _, _, _, _, _, _, _, _, _, _, _, _, _, _, rfl, _⟩ := h; rfl) | (obtain ⟨_, _, _, _, _, _, _, _, _, _, _, _, _, _, _, _, _, _, _, rfl, _⟩ := h; rfl) | (obtain ⟨_, _, _, _, _, _, _, _, _, _, _, _, _, _, _, _, _, _, _, _, rfl, _⟩ := h; rfl) | (obtain ⟨_, _, _, _, _, _, _, _, _, _, _, _, _, _, _, _, _, _, _, _, _, rfl, _⟩ := h; rfl) | (obtain ⟨_, _, _, _, _, _, _, _, _, _, _, _, _, _, _, _, _, _, _, _, _, _, rfl, _⟩ := h; rfl) | (obtain ⟨_, _, _, _, _, _, _, _, _, _, _, _, _, _, _, _, _, _, _, _, _, _, _, rfl, _⟩ := h; rfl)) (fun cdv A outer s H vs Q E hr tk pz h => ?_)
  have hu := hr.units
  have hrH := L2H.roomH_of hr
  obtain ⟨w, l, r, g, n, v, s, st, rfl, ⟨hw, hl, hr', hg, _⟩, W, hst, v1, v2, k⟩ := h
  refine ⟨_, (pss_cons (ps_set (i := 2) sc__law_late.nd rfl (Or.inl rfl) (pe_lst pa_nil))
      (pss_cons (ps_set (i := 3) sc__law_late.nd rfl (Or.inl rfl) (pe_ix ix_seq (pe_ix ix_seq (pv 0) pe_int (fun _ _ => rfl)) (pv 1) (fun _ _ => rfl)))
      (pss_cons (ps_set (i := 4) sc__law_late.nd rfl (Or.inl rfl) (pe_ix ix_seq (pe_ix ix_seq (pv 0) pe_int (fun _ _ => rfl)) (pv 1) (fun _ _ => rfl)))
      (pss_cut (ps_if (PW.pt (pw_and (pt_cmpA (o_ne hu) (pv 3) (pe_op op_sub (pv 1) pe_int) (nomark _)) (pw_and1 (pt_cmpA (o_eq hu) (pe_ix ix_seq (pe_ix ix_seq (pv 0) pe_int (fun _ _ => rfl)) (pe_op o_add (pv 3) pe_int) (fun _ _ => rfl)) pe_int (nomark _))))) (pss_one (ps_expr (pe_bm PySem.F.plainAttrs_list PySem.F.slot_list_append PySem.F.type_list_append mt_append (pv 2) (pa_cons (pv 3) pa_nil)))) pss_nil)
      (pss_cons (ps_if (PW.pt (pw_and (pt_cmpA (o_ne hu) (pv 4) (pe_op o_add (pv 1) pe_int) (nomark _)) (pw_and1 (pt_cmpA (o_eq hu) (pe_ix ix_seq (pe_ix ix_seq (pv 0) pe_int (fun _ _ => rfl)) (pe_op op_sub (pv 4) pe_int) (fun _ _ => rfl)) pe_int (nomark _))))) (pss_one (ps_expr (pe_bm PySem.F.plainAttrs_list PySem.F.slot_list_append PySem.F.type_list_append mt_append (pv 2) (pa_cons (pe_op op_sub (pv 4) pe_int) pa_nil)))) pss_nil)
      (pss_one (ps_ret (pv 2)))))))), ?_⟩
  show (_ : Ends → L2.St → Hp → Prop) _ [some _, some _, none, none, none] _
  try dsimp only [L2H.cxH, cxOf]
  have hL := WF.hL W
  have hla := rn_len W
  have q := WF.at W (v := v.toNat) (by omega) (by omega)
  rw [show ((v.toNat : Nat) : Int) = v by omega] at q
  have eR : (s.1 ++ [n + 2]).getD v.toNat default = s.1.getD v.toNat default := gd_app (by rw [WF.hR W]; omega)
  unfold lateF stB at k
  generalize hlo : s.2.1.getD v.toNat default = lo at q k
  generalize hhi : s.1.getD v.toNat default = hi at q eR k
  walk_at "w"
  intro p hp
  have kp := Kp.refl.new (ms := []) (o := .lst []) hp
  have hp1 : upd H p (.lst []) p = some (.lst (([] : List Int).map V.int)) := upd_same
  have hw1 := kp.at0 hw
  have hl1 := kp.at0 hl
  have hr1 := kp.at0 hr'
  have hg1 := kp.at0 hg
  generalize upd H p (.lst []) = H1 at kp hp1 hw1 hl1 hr1 hg1 ⊢
  walk_at "w"
  rw [hlo, eR]
  walk_at "w"
  refine s_cut (fun σ' H' => σ' = [some (.ref w), some (.int v), some (.ref p), some (.int lo), some (.int hi)] ∧ Kp [] H H' ∧ H' p = some (.lst ((if lo ≠ v - 1 ∧ decide (st.getD (lo + 1).toNat default = 2) = true then [lo] else []).map V.int))) ?_ ?_
  · walk_at "w"
    refine w_iteN (fun c1 => ?_) (fun c1 => ?_)
    · walk_at "w"
      refine w_ite (fun c2 => ?_) (fun c2 => ?_)
      · walk_at "w"
        rw [if_pos ⟨c1, decide_eq_true c2⟩]
        exact ⟨rfl, kp.own hp, upd_same⟩
      · walk_at "w"
        rw [if_neg (fun z => c2 (of_decide_eq_true z.2))]
        exact ⟨rfl, kp, hp1⟩
    · walk_at "w"
      rw [if_neg (fun z => z.1 c1)]
      exact ⟨rfl, kp, hp1⟩
  rintro σ' H2 ⟨rfl, k2, hp2⟩
  have hw2 := k2.at0 hw
  have hg2 := k2.at0 hg
  have hl1 : (if lo ≠ v - 1 ∧ decide (st.getD (lo + 1).toNat default = 2) = true then [lo] else []).length ≤ 1 := by split <;> simp
  generalize (if lo ≠ v - 1 ∧ decide (st.getD (lo + 1).toNat default = 2) = true then [lo] else []) = us at hp2 hl1 k
  walk_at "w"
  refine w_iteN (fun c1 => ?_) (fun c1 => ?_)
  · walk_at "w"
    refine w_ite (fun c2 => ?_) (fun c2 => ?_)
    · walk_at "w"
      rw [if_pos ⟨c1, decide_eq_true c2⟩] at k
      exact k p _ hp (k2.own hp) upd_same
    · walk_at "w"
      rw [if_neg (fun z => c2 (of_decide_eq_true z.2)), List.append_nil] at k
      exact k p _ hp k2 hp2
  · walk_at "w"
    rw [if_neg (fun z => z.1 c1), List.append_nil] at k
    exact k p _ hp k2 hp2
def stU (st : List Int) (o : Int) : List Int := st.set o.natAbs (if o < 0 then 1 else 2)
def sp__law_step (a : AD) : Sp := fun vs H Q _ => ∃ (w l r g : Addr) (n o : Int) (s : St3) (st : List Int), vs = [.ref w, .int o] ∧ Wl H w l r g n s st ∧ WFs n s ∧ st.length = (n + 2).toNat ∧ IsOp n o ∧ ∀ H', Wl H' w l r g n (stS s o) (stU st o) → Kp [l, r, g] H H' → Q .non H'
theorem sc__law_step : FnScope ["_law_book", "_law_operation", "_law_lefts", "_law_rights", "_law_stage", "_law_node", "_law_before", "_law_behind"] ["_law_book", "_law_operation"] (defScope s__law_step) := ⟨rfl, rfl, rfl, by decide +kernel, rfl, by decide +kernel, by decide +kernel⟩
theorem ok__law_step {P : Program} {w : World} {K : PySem.W.Frag} {mg : Str → Option Value} {base : Heap} {a : AD} (T : Txt P K mg a) : FnA P w K mg base 2 a.f__law_step ["_law_book", "_law_operation"] (sp__law_step a) := by
  obtain ⟨fd, F, b⟩ := T.F__law_step
  refine FnA.of F sc__law_step b (fun vs H Q E h => by first | (obtain ⟨rfl, _⟩ := h; rfl) | (obtain ⟨_, rfl, _⟩ := h; rfl) | (obtain ⟨_, _, rfl, _⟩ := h; rfl) | (obtain ⟨_, _, _, rfl, _⟩ := h; rfl) | (obtain ⟨_, _, _, _, rfl, _⟩ := h; rfl) | (obtain ⟨_, _, _, _, _, rfl, _⟩ := h; rfl) | (obtain ⟨_, _, _, _, _, _, rfl, _⟩ := h; rfl) | (obtain ⟨_, _, _, _, _, _, _, rfl, _⟩ := h; rfl) | (obtain ⟨_, _, _, _, _, _, _, _, rfl, _⟩ := h; rfl) | (obtain ⟨_, _, _, _, _, _, _, _, _, rfl, _⟩ := h; rfl) | (obtain ⟨_, _, _, _, _, _, _, _, _, _, rfl, _⟩ := h; rfl) | (obtain ⟨_, _, _, _, _, _, _, _, _, _, _, rfl, _⟩ := h; rfl) | (obtain ⟨_, _, _, _, _, _, _, _, _, _, _, _, rfl, _⟩ := h; rfl) | (obtain ⟨_, _, _, _, _, _, _, _, _, _, _, _, _, rfl, _⟩ := h; rfl) | (obtain ⟨_, _, _, _, _, _, _, _, _, _, _, _, _, _, rfl, _⟩ := h; rfl) | (obtain ⟨_, _, _, _, _, _, _, _, _, _, _, _, _, _, _, rfl, _⟩ := h; rfl) | (obtain ⟨_, _, _, _, _, _, _, _, _, _, _, _, _, _, _, _, rfl, _⟩ := h; rfl) | (obtain ⟨_, _, _, _, _, _, _, _, _, _, _, _, _, _, _, _, _, rfl, _⟩ := h; rfl) | (obtain ⟨_, _, _, _, _, _, _, _, _, _, _, _, _, _, _, _, _, _, rfl, _⟩ := h; rfl) | (obtain ⟨_, _, _, _, _, _, _, _, _, _, _, _, _, _, _, _, _, _, _, rfl, _⟩ := h; rfl) | (obtain ⟨_, _, _, _, _, _, _, _, _, _, _, _, _, _, _, _, _, _, _, _, rfl, _⟩ := h; rfl) | (obtain ⟨_, _, _, _, _, _, _, _, _, _, _, _, _, _, _, _, _, _, _, _, _, rfl, _⟩ := h; rfl) | (obtain ⟨_, _, _, _, _, _, _, _, _, _, _, _, _, _, _, _, _, _, _, _, _, _, rfl, _⟩ := h; rfl) | (obtain ⟨_, _, _, _, _, _, _, _, _, _, _, _, _, _, _, _, _, _, _, _, _, _, _, rfl, _⟩ := h; rfl)) (fun cdv A outer s H vs Q E hr tk pz h => ?_)
  have hu := hr.units
  have hrH := L2H.roomH_of hr
  obtain ⟨w, l, r, g, n, o, s, st, rfl, ⟨hw, hl, hr', hg, d1, d2, d3, d4, d5, d6⟩, W, hst, hop, k⟩ := h
  refine ⟨_, (pss_cons (ps_set (i := 2) sc__law_step.nd rfl (Or.inl rfl) (pe_ix ix_seq (pv 0) pe_int (fun _ _ => rfl)))
      (pss_cons (ps_set (i := 3) sc__law_step.nd rfl (Or.inl rfl) (pe_ix ix_seq (pv 0) pe_int (fun _ _ => rfl)))
      (pss_cons (ps_set (i := 4) sc__law_step.nd rfl (Or.inl rfl) (pe_ix ix_seq (pv 0) pe_int (fun _ _ => rfl)))
      (pss_cons (ps_set (i := 5) sc__law_step.nd rfl (Or.inl rfl) (pe_callB (b_abs) rfl T.b_abs (by decide +kernel) (pa_cons (pv 1) pa_nil)))
      (pss_cons (ps_set (i := 6) sc__law_step.nd rfl (Or.inl rfl) (pe_ix ix_seq (pv 2) (pv 5) (fun _ _ => rfl)))
      (pss_cons (ps_set (i := 7) sc__law_step.nd rfl (Or.inl rfl) (pe_ix ix_seq (pv 3) (pv 5) (fun _ _ => rfl)))
      (pss_one (ps_if (pt_cmpA op_lt (pv 1) pe_int (nomark _)) (pss_cons (ps_asg (pv 7) (pg_sub (pv 3) (pv 6) set_list))
      (pss_cons (ps_asg (pv 6) (pg_sub (pv 2) (pv 7) set_list))
      (pss_one (ps_asg pe_int (pg_sub (pv 4) (pv 5) set_list))))) (pss_cons (ps_asg (pv 5) (pg_sub (pv 3) (pv 6) set_list))
      (pss_cons (ps_asg (pv 5) (pg_sub (pv 2) (pv 7) set_list))
      (pss_one (ps_asg pe_int (pg_sub (pv 4) (pv 5) set_list))))))))))))), ?_⟩
  show (_ : Ends → L2.St → Hp → Prop) _ [some _, some _, none, none, none, none, none, none] _
  try dsimp only [L2H.cxH, cxOf]
  have hL := WF.hL W
  have hla := rn_len W
  have hR := WF.hR W
  have ho1 := hop.1
  have ho2 := hop.2
  have q := WF.at W (v := o.natAbs) (by omega) ho2
  have eR : (s.1 ++ [n + 2]).getD o.natAbs default = s.1.getD o.natAbs default := gd_app (by omega)
  have hkp : ∀ {H' : Hp} {y : Addr} {u : HO}, Kp [l, r, g] H H' → y ∈ [l, r, g] → Kp [l, r, g] H (upd H' y u) := fun h z => h.mut z
  have fin : ∀ H' : Hp, H' w = H w → H' l = some (.lst ((s.2.1.set (s.1.getD o.natAbs default).toNat (if o < 0 then s.2.1.getD o.natAbs default else (o.natAbs : Int))).map V.int)) → H' r = some (.lst (((s.1.set (s.2.1.getD o.natAbs default).toNat (if o < 0 then s.1.getD o.natAbs default else (o.natAbs : Int))) ++ [n + 2]).map V.int)) → H' g = some (.lst ((stU st o).map V.int)) → Wl H' w l r g n (stS s o) (stU st o) := fun H' h1 h2 h3 h4 => by
    have e : stS s o = (s.1.set (s.2.1.getD o.natAbs default).toNat (if o < 0 then s.1.getD o.natAbs default else (o.natAbs : Int)), s.2.1.set (s.1.getD o.natAbs default).toNat (if o < 0 then s.2.1.getD o.natAbs default else (o.natAbs : Int)), s.2.2.set o.natAbs (decide (o < 0))) := rfl
    rw [e]
    exact ⟨h1.trans hw, h2, h3, h4, d1, d2, d3, d4, d5, d6⟩
  walk_at "w"
  rw [Int.toNat_natCast, eR]
  refine w_ite (fun c => ?_) (fun c => ?_)
  · have e1 : stU st o = st.set o.natAbs 1 := by unfold stU; rw [if_pos c]
    rw [if_pos c, if_pos c] at fin
    walk_at "w"
    refine k _ (fin _ ?_ ?_ ?_ ?_) (hkp (hkp (hkp Kp.refl (by simp)) (by simp)) (by simp))
    · rw [upd_ne d3, upd_ne d1, upd_ne d2]
    · exact upd_get d5 upd_same
    · rw [← set_app (by omega)]; exact upd_get d6 (upd_get (Ne.symm d4) upd_same)
    · rw [e1]; exact upd_same
  · have e1 : stU st o = st.set o.natAbs 2 := by unfold stU; rw [if_neg c]
    rw [if_neg c, if_neg c] at fin
    walk_at "w"
    refine k _ (fin _ ?_ ?_ ?_ ?_) (hkp (hkp (hkp Kp.refl (by simp)) (by simp)) (by simp))
    · rw [upd_ne d3, upd_ne d1, upd_ne d2]
    · exact upd_get d5 upd_same
    · rw [← set_app (by omega)]; exact upd_get d6 (upd_get (Ne.symm d4) upd_same)
    · rw [e1]; exact upd_same

/-! ### counting the operations of a node -/
theorem snoc_ind {P : List Int → Prop} (h0 : P []) (hs : ∀ us o, P us → P (us ++ [o])) (us : List Int) : P us := by
  have key : ∀ us : List Int, P us.reverse := by
    intro us
    induction us with
    | nil => exact h0
    | cons o us ih => rw [List.reverse_cons]; exact hs _ _ ih
  have := key us.reverse
  rwa [List.reverse_reverse] at this
def cntN (us : List Int) (v : Nat) : Nat := (us.filter fun o => decide (o.natAbs = v)).length
theorem cnt_app (a b : List Int) (v : Nat) : cntN (a ++ b) v = cntN a v + cntN b v := by unfold cntN; rw [List.filter_append, List.length_append]
theorem cnt_cons (o : Int) (us : List Int) (v : Nat) : cntN (o :: us) v = (if o.natAbs = v then 1 else 0) + cntN us v := by
  unfold cntN
  rw [List.filter_cons]
  by_cases c : o.natAbs = v
  · rw [if_pos (by simpa using c), if_pos c, List.length_cons]; omega
  · rw [if_neg (by simpa using c), if_neg c]; omega
theorem cnt_snoc (us : List Int) (o : Int) (v : Nat) : cntN (us ++ [o]) v = cntN us v + if o.natAbs = v then 1 else 0 := by
  rw [cnt_app, cnt_cons]; rfl
/-- legal, told by the counts -/
def lgl (n : Int) (c : Nat → Nat) : List Int → Prop
  | [] => True
  | o :: us => IsOp n o ∧ (c o.natAbs % 2 = 0 ↔ o < 0) ∧ lgl n (fun v => c v + if o.natAbs = v then 1 else 0) us
theorem lgl_app {n : Int} : ∀ {a b : List Int} {c : Nat → Nat}, lgl n c (a ++ b) ↔ lgl n c a ∧ lgl n (fun v => c v + cntN a v) b
  | [], b, c => ⟨fun h => ⟨trivial, h⟩, fun h => h.2⟩
  | o :: a, b, c => by
    have e : (fun v => (c v + if o.natAbs = v then 1 else 0) + cntN a v) = fun v => c v + cntN (o :: a) v := by
      funext v; rw [cnt_cons]; omega
    have ih := lgl_app (n := n) (a := a) (b := b) (c := fun v => c v + if o.natAbs = v then 1 else 0)
    rw [e] at ih
    constructor
    · rintro ⟨h1, h2, h3⟩
      exact ⟨⟨h1, h2, (ih.mp h3).1⟩, (ih.mp h3).2⟩
    · rintro ⟨⟨h1, h2, h3⟩, h4⟩
      exact ⟨h1, h2, ih.mpr ⟨h3, h4⟩⟩
theorem lgl_par {n : Int} : ∀ {us : List Int} {c d : Nat → Nat}, (∀ o ∈ us, c o.natAbs % 2 = d o.natAbs % 2) → lgl n c us → lgl n d us
  | [], _, _, _, _ => trivial
  | o :: us, c, d, h, ⟨h1, h2, h3⟩ => by
    refine ⟨h1, by rw [← h o List.mem_cons_self]; exact h2, lgl_par (fun p hp => ?_) h3⟩
    have := h p (List.mem_cons_of_mem _ hp)
    show (c p.natAbs + _) % 2 = (d p.natAbs + _) % 2
    omega
theorem lgl_one {n : Int} {c : Nat → Nat} {o : Int} : lgl n c [o] ↔ IsOp n o ∧ (c o.natAbs % 2 = 0 ↔ o < 0) := ⟨fun h => ⟨h.1, h.2.1⟩, fun h => ⟨h.1, h.2, trivial⟩⟩
theorem lgl_op {n : Int} : ∀ {us : List Int} {c : Nat → Nat}, lgl n c us → ∀ o ∈ us, IsOp n o
  | [], _, _, o, h => absurd h List.not_mem_nil
  | p :: us, c, ⟨h1, h2, h3⟩, o, h => (List.mem_cons.mp h).elim (fun z => z ▸ h1) fun z => lgl_op h3 o z
/-- the flags by the counts -/
theorem flag_cnt {n : Int} (n0 : 0 ≤ n) (n1 : n ≤ 60) {us : List Int} : ∀ i, i ≤ us.length → okTo n (s0 n) us i → ∀ v : Nat, 1 ≤ v → (v : Int) ≤ n → (runS (s0 n) (us.take i)).2.2.getD v default = decide (cntN (us.take i) v % 2 = 1)
  | 0, _, _, v, v1, v2 => by
    rw [List.take_zero]
    show (List.replicate (n + 2).toNat false).getD v default = _
    rw [List.getD_eq_getElem?_getD, List.getElem?_replicate]
    split <;> rfl
  | i + 1, hi, hok, v, v1, v2 => by
    have hu : us[i]? = some us[i] := List.getElem?_eq_getElem (by omega)
    have hok' : okTo n (s0 n) us i := fun j o hj ho => hok j o (by omega) ho
    have ih := flag_cnt n0 n1 i (by omega) hok'
    have hO := hok i _ (by omega) hu
    have W := runS_wf (wfs0 n0 n1) i (by omega) hok'
    have hF := WF.hF W
    rw [take_snoc hu, runS_snoc, cnt_snoc]
    generalize us[i] = o at hO
    show ((runS (s0 n) (us.take i)).2.2.set o.natAbs (decide (o < 0))).getD v default = _
    have ho1 := hO.1.1
    have ho2 := hO.1.2
    by_cases c : o.natAbs = v
    · subst c
      have hn := hO.2
      rw [ih _ v1 v2] at hn
      rw [getD_set_eq (by omega), if_pos rfl]
      apply decide_eq_decide.mpr
      have hn' : ¬(cntN (us.take i) o.natAbs % 2 = 1 ↔ o < 0) := fun z => hn (decide_eq_decide.mpr z)
      constructor
      · intro z
        have : ¬cntN (us.take i) o.natAbs % 2 = 1 := fun y => hn' ⟨fun _ => z, fun _ => y⟩
        omega
      · intro z
        have : ¬cntN (us.take i) o.natAbs % 2 = 1 := by omega
        exact Classical.byContradiction fun y => hn' ⟨fun t => absurd t this, fun t => absurd t y⟩
    · rw [getD_set_ne c, if_neg c, Nat.add_zero, ih v v1 v2]
theorem ok_iff {n : Int} (n0 : 0 ≤ n) (n1 : n ≤ 60) {us : List Int} : ∀ i, i ≤ us.length → (okTo n (s0 n) us i ↔ lgl n (fun _ => 0) (us.take i))
  | 0, _ => ⟨fun _ => trivial, fun _ j o hj => by omega⟩
  | i + 1, hi => by
    have hu : us[i]? = some us[i] := List.getElem?_eq_getElem (by omega)
    have ih := ok_iff n0 n1 (us := us) i (by omega)
    rw [take_snoc hu, lgl_app, lgl_one]
    have key : okTo n (s0 n) us i → (OkAt n (runS (s0 n) (us.take i)) us[i] ↔ IsOp n us[i] ∧ ((0 + cntN (us.take i) us[i].natAbs) % 2 = 0 ↔ us[i] < 0)) := fun h => by
      unfold OkAt
      constructor
      · rintro ⟨h1, h2⟩
        refine ⟨h1, ?_⟩
        have h11 := h1.1
        rw [flag_cnt n0 n1 i (by omega) h _ (by omega) h1.2] at h2
        have h3 : ¬(cntN (us.take i) us[i].natAbs % 2 = 1 ↔ us[i] < 0) := fun z => h2 (decide_eq_decide.mpr z)
        constructor
        · intro z
          exact Classical.byContradiction fun y => h3 ⟨fun t => by omega, fun t => absurd t y⟩
        · intro z
          refine Classical.byContradiction fun y => h3 ⟨fun _ => z, fun _ => by omega⟩
      · rintro ⟨h1, h2⟩
        refine ⟨h1, ?_⟩
        have h11 := h1.1
        rw [flag_cnt n0 n1 i (by omega) h _ (by omega) h1.2]
        intro z
        have z := decide_eq_decide.mp z
        omega
    constructor
    · intro h
      have hi' : okTo n (s0 n) us i := fun j o hj ho => h j o (by omega) ho
      exact ⟨ih.mp hi', (key hi').mp (h i _ (by omega) hu)⟩
    · rintro ⟨h1, h2⟩ j o hj ho
      have h1 := ih.mpr h1
      by_cases z : j < i
      · exact h1 j o z ho
      · obtain rfl : j = i := by omega
        rw [hu] at ho
        cases ho
        exact (key h1).mpr h2
theorem ok_lgl {n : Int} (n0 : 0 ≤ n) (n1 : n ≤ 60) {us : List Int} : okTo n (s0 n) us us.length ↔ lgl n (fun _ => 0) us := by
  have := ok_iff n0 n1 (us := us) us.length (Nat.le_refl _)
  rwa [List.take_length] at this
/-- members by the counts -/
theorem cnt_mem {n : Int} (v : Nat) (hv : 1 ≤ v) (us : List Int) : lgl n (fun _ => 0) us → (1 ≤ cntN us v → -(v : Int) ∈ us) ∧ (2 ≤ cntN us v → (v : Int) ∈ us) ∧ ((v : Int) ∈ us → 2 ≤ cntN us v) ∧ (-(v : Int) ∈ us → 1 ≤ cntN us v) := by
  refine snoc_ind (P := fun us => lgl n (fun _ => 0) us → (1 ≤ cntN us v → -(v : Int) ∈ us) ∧ (2 ≤ cntN us v → (v : Int) ∈ us) ∧ ((v : Int) ∈ us → 2 ≤ cntN us v) ∧ (-(v : Int) ∈ us → 1 ≤ cntN us v)) ?_ ?_ us
  · intro _
    refine ⟨fun h => by simp [cntN] at h, fun h => by simp [cntN] at h, fun h => absurd h List.not_mem_nil, fun h => absurd h List.not_mem_nil⟩
  · intro us o ih h
    obtain ⟨h1, h2⟩ := lgl_app.mp h
    obtain ⟨h2, h3⟩ := lgl_one.mp h2
    obtain ⟨i1, i2, i3, i4⟩ := ih h1
    simp only [cnt_snoc, List.mem_append, List.mem_singleton, Nat.zero_add] at h3 ⊢
    have ho1 := h2.1
    by_cases c : o.natAbs = v
    · subst c
      rw [if_pos rfl]
      refine ⟨fun _ => ?_, fun z => ?_, fun z => ?_, fun z => by omega⟩
      · by_cases d : 1 ≤ cntN us o.natAbs
        · exact .inl (i1 d)
        · exact .inr (by have := h3.mp (by omega); omega)
      · by_cases d : 2 ≤ cntN us o.natAbs
        · exact .inl (i2 d)
        · refine .inr ?_
          have : ¬o < 0 := fun y => by have := h3.mpr y; omega
          omega
      · rcases z with z | z
        · have := i3 z; omega
        · have : ¬o < 0 := by omega
          have : ¬cntN us o.natAbs % 2 = 0 := fun y => this (h3.mp y)
          omega
    · rw [if_neg c]
      refine ⟨fun z => .inl (i1 (by omega)), fun z => .inl (i2 (by omega)), fun z => ?_, fun z => ?_⟩
      · rcases z with z | z
        · have := i3 z; omega
        · omega
      · rcases z with z | z
        · have := i4 z; omega
        · omega
theorem once_snoc {us : List Int} {o : Int} : onceL (us ++ [o]) (us.length + 1) ↔ onceL us us.length ∧ (o < 0 → o ∉ us) := by
  constructor
  · intro h
    refine ⟨fun j p hj hp hp0 => ?_, fun h0 => ?_⟩
    · have := h j p (by omega) (by rw [List.getElem?_append_left hj]; exact hp) hp0
      rwa [List.take_append_of_le_length (by omega)] at this
    · have := h us.length o (by omega) (by rw [List.getElem?_append_right (Nat.le_refl _)]; simp) h0
      rwa [List.take_append_of_le_length (Nat.le_refl _), List.take_length] at this
  · rintro ⟨h1, h2⟩ j p hj hp hp0
    by_cases z : j < us.length
    · rw [List.getElem?_append_left z] at hp
      rw [List.take_append_of_le_length (by omega)]
      exact h1 j p z hp hp0
    · obtain rfl : j = us.length := by omega
      rw [List.getElem?_append_right (Nat.le_refl _)] at hp
      simp at hp
      subst hp
      rw [List.take_append_of_le_length (Nat.le_refl _), List.take_length]
      exact h2 hp0
/-- once-only: no node acts three times -/
theorem once_cnt {n : Int} (v : Nat) (hv : 1 ≤ v) (us : List Int) : lgl n (fun _ => 0) us → onceL us us.length → cntN us v ≤ 2 := by
  refine snoc_ind (P := fun us => lgl n (fun _ => 0) us → onceL us us.length → cntN us v ≤ 2) ?_ ?_ us
  · intro _ _; simp [cntN]
  · intro us o ih h ho
    rw [List.length_append, List.length_singleton] at ho
    obtain ⟨h4, h5⟩ := once_snoc.mp ho
    obtain ⟨h1, h2⟩ := lgl_app.mp h
    obtain ⟨h2, h3⟩ := lgl_one.mp h2
    have i := ih h1 h4
    rw [cnt_snoc]
    by_cases c : o.natAbs = v
    · subst c
      rw [if_pos rfl]
      refine Classical.byContradiction fun z => ?_
      have e : cntN us o.natAbs = 2 := by omega
      have hneg := h3.mp (by simp [e])
      refine h5 hneg ?_
      have := (cnt_mem o.natAbs hv us h1).1 (by omega)
      rwa [show -(o.natAbs : Int) = o by omega] at this
    · rw [if_neg c]; exact i
/-- an operation on a node that may still act -/
theorem once_more {n : Int} {us : List Int} {o : Int} (h : lgl n (fun _ => 0) us) (hon : onceL us us.length) (hop : IsOp n o) (hp : cntN us o.natAbs % 2 = 0 ↔ o < 0) (hc : cntN us o.natAbs < 2) : lgl n (fun _ => 0) (us ++ [o]) ∧ onceL (us ++ [o]) (us ++ [o]).length := by
  refine ⟨lgl_app.mpr ⟨h, lgl_one.mpr ⟨hop, by simpa using hp⟩⟩, ?_⟩
  rw [List.length_append, List.length_singleton]
  refine once_snoc.mpr ⟨hon, fun h0 hm => ?_⟩
  have h01 := hop.1
  have := (cnt_mem o.natAbs (by omega) us h).2.2.2 (by rwa [show -(o.natAbs : Int) = o by omega])
  have := hp.mpr h0
  omega
/-- a part from the front -/
theorem once_take {us : List Int} (h : onceL us us.length) (k : Nat) : onceL (us.take k) (us.take k).length := by
  intro j p hj hp hp0
  have hk : j < k := by rw [List.length_take] at hj; omega
  have hl : j < us.length := by rw [List.length_take] at hj; omega
  rw [List.getElem?_take_of_lt hk] at hp
  rw [List.take_take, Nat.min_eq_left (by omega)]
  exact h j p hl hp hp0
theorem lgl_take {n : Int} {us : List Int} (h : lgl n (fun _ => 0) us) (k : Nat) : lgl n (fun _ => 0) (us.take k) := by
  rw [← List.take_append_drop k us] at h
  exact (lgl_app.mp h).1
/-! ### the stages -/
structure StOk (n : Int) (us : List Int) (st : List Int) : Prop where
  len : st.length = (n + 2).toNat
  at_ : ∀ v : Nat, 1 ≤ v → (v : Int) ≤ n → st.getD v default = (cntN us v : Int)
  lo : st.getD 0 default = 0
  hi : st.getD (n + 1).toNat default = 0
theorem StOk.nil {n : Int} (n0 : 0 ≤ n) : StOk n [] (List.replicate (n + 2).toNat 0) := by
  have key : ∀ i, (List.replicate (n + 2).toNat (0 : Int)).getD i default = 0 := fun i => by
    rw [List.getD_eq_getElem?_getD, List.getElem?_replicate]
    split <;> rfl
  exact ⟨by simp, fun v _ _ => key v, key 0, key _⟩
theorem StOk.step {n : Int} (n0 : 0 ≤ n) {us st : List Int} {o : Int} (h : StOk n us st) (hop : IsOp n o) (hp : cntN us o.natAbs % 2 = 0 ↔ o < 0) (hc : cntN us o.natAbs < 2) : StOk n (us ++ [o]) (stU st o) := by
  have h1 := hop.1
  have h2 := hop.2
  have hl := h.len
  unfold stU
  refine ⟨by rw [List.length_set]; exact hl, fun v v1 v2 => ?_, ?_, ?_⟩
  · rw [cnt_snoc]
    by_cases c : o.natAbs = v
    · subst c
      rw [getD_set_eq (by omega), if_pos rfl]
      by_cases d : o < 0
      · rw [if_pos d]
        have := hp.mpr d
        omega
      · rw [if_neg d]
        have : ¬cntN us o.natAbs % 2 = 0 := fun z => d (hp.mp z)
        omega
    · rw [getD_set_ne c, if_neg c, h.at_ v v1 v2]; rfl
  · rw [getD_set_ne (by omega)]; exact h.lo
  · rw [getD_set_ne (by omega)]; exact h.hi
theorem StOk.bk {n : Int} {us st : List Int} (h : StOk n us st) (hl : lgl n (fun _ => 0) us) (hon : onceL us us.length) (u : Int) (u1 : 1 ≤ u) (u2 : u ≤ n) : stB st u = bkF us us.length u := by
  have hm := cnt_mem u.toNat (by omega) us hl
  have hc := once_cnt u.toNat (by omega) us hl hon
  have ha := h.at_ u.toNat (by omega) (by omega)
  rw [show ((u.toNat : Nat) : Int) = u by omega] at hm
  unfold stB bkF
  rw [ha, List.take_length]
  apply decide_eq_decide.mpr
  constructor
  · intro z
    exact ⟨by omega, hm.2.1 (by omega)⟩
  · rintro ⟨_, z⟩
    have := hm.2.2.1 z
    omega
theorem late_congr {n : Int} {s : List Int × List Int × List Bool} (W : WFs n s) {b1 b2 : Int → Bool} (h : ∀ u, 1 ≤ u → u ≤ n → b1 u = b2 u) {v : Int} (v1 : 1 ≤ v) (v2 : v ≤ n) : lateF s b1 v = lateF s b2 v := by
  have q := WF.at W (v := v.toNat) (by omega) (by omega)
  unfold lateF
  rw [h (s.2.1.getD v.toNat default + 1) (by omega) (by omega), h (s.1.getD v.toNat default - 1) (by omega) (by omega)]
/-! ### somebody may still act -/
theorem sum_hit (a lo : Nat) : ∀ m, ((List.range m).map fun j => if a = lo + j then 1 else 0).sum = if lo ≤ a ∧ a < lo + m then 1 else 0
  | 0 => by rw [if_neg (by omega)]; rfl
  | m + 1 => by
    rw [List.range_succ, List.map_append, List.sum_append, sum_hit a lo m]
    simp only [List.map_cons, List.map_nil, List.sum_cons, List.sum_nil]
    by_cases c : a = lo + m
    · rw [if_neg (by omega), if_pos c, if_pos (by omega)]; rfl
    · by_cases d : lo ≤ a ∧ a < lo + m
      · rw [if_pos d, if_neg c, if_pos (by omega)]; rfl
      · rw [if_neg d, if_neg c, if_neg (by omega)]; rfl
theorem sum_cnt (lo : Nat) (us : List Int) (m : Nat) (h : ∀ o ∈ us, lo ≤ o.natAbs ∧ o.natAbs < lo + m) : ((List.range m).map fun j => cntN us (lo + j)).sum = us.length := by
  induction us with
  | nil =>
    have : ∀ m, ((List.range m).map fun j => cntN [] (lo + j)).sum = 0 := by
      intro m
      induction m with
      | zero => rfl
      | succ m ih => rw [List.range_succ, List.map_append, List.sum_append, ih]; simp [cntN]
    exact this m
  | cons o us ih =>
    have e : ((List.range m).map fun j => cntN (o :: us) (lo + j)).sum = ((List.range m).map fun j => if o.natAbs = lo + j then 1 else 0).sum + ((List.range m).map fun j => cntN us (lo + j)).sum := by
      have : ∀ m, ((List.range m).map fun j => cntN (o :: us) (lo + j)).sum = ((List.range m).map fun j => if o.natAbs = lo + j then 1 else 0).sum + ((List.range m).map fun j => cntN us (lo + j)).sum := by
        intro m
        induction m with
        | zero => rfl
        | succ m ih =>
          rw [List.range_succ, List.map_append, List.map_append, List.map_append, List.sum_append, List.sum_append, List.sum_append, ih]
          simp only [List.map_cons, List.map_nil, List.sum_cons, List.sum_nil]
          rw [cnt_cons]
          omega
      exact this m
    rw [e, sum_hit, if_pos (h o List.mem_cons_self), ih fun p hp => h p (List.mem_cons_of_mem _ hp), List.length_cons]; omega
theorem free_ex {lo m : Nat} {us : List Int} (h : ∀ o ∈ us, lo ≤ o.natAbs ∧ o.natAbs < lo + m) (hl : us.length < 2 * m) : ∃ j, j < m ∧ cntN us (lo + j) < 2 := by
  refine Classical.byContradiction fun z => ?_
  have key : ∀ k, k ≤ m → 2 * k ≤ ((List.range k).map fun j => cntN us (lo + j)).sum := by
    intro k
    induction k with
    | zero => intro _; simp
    | succ k ih =>
      intro hk
      rw [List.range_succ, List.map_append, List.sum_append]
      simp only [List.map_cons, List.map_nil, List.sum_cons, List.sum_nil]
      have h1 := ih (by omega)
      have h2 : ¬cntN us (lo + k) < 2 := fun y => z ⟨k, by omega, y⟩
      omega
  have := key m (Nat.le_refl _)
  rw [sum_cnt lo us m h] at this
  omega

/-! ### the drawn log -/
def PatOk (lo hi : Int) (pat : List Int) : Prop := pat = [] ∨ ∃ x y, pat = [x, y, x] ∧ lo ≤ x ∧ x ≤ hi ∧ lo ≤ y ∧ y ≤ hi ∧ x ≠ y
def sp__law_pattern (a : AD) : Sp := fun vs H Q _ => ∃ (b q : Addr) (lo hi : Int), vs = [.ref b, .int lo, .int hi] ∧ Bx H b q ∧ 0 ≤ lo ∧ hi ≤ 60 ∧ ∀ (p : Addr) (pat : List Int) (H' : Hp), H p = none → H' p = some (.lst (pat.map V.int)) → PatOk lo hi pat → Bx H' b q → Kp [b, q] H H' → Q (.ref p) H'
theorem sc__law_pattern : FnScope ["_law_box_here", "_law_low", "_law_high", "_law_one", "_law_other"] ["_law_box_here", "_law_low", "_law_high"] (defScope s__law_pattern) := ⟨rfl, rfl, rfl, by decide +kernel, rfl, by decide +kernel, by decide +kernel⟩
theorem ok__law_pattern {P : Program} {w : World} {K : PySem.W.Frag} {mg : Str → Option Value} {base : Heap} {a : AD} (T : Txt P K mg a) (G__law_take : FnA P w K mg base 3 a.f__law_take ["_law_box_here", "_law_many"] (sp__law_take a)) : FnA P w K mg base 4 a.f__law_pattern ["_law_box_here", "_law_low", "_law_high"] (sp__law_pattern a) := by
  obtain ⟨fd, F, b⟩ := T.F__law_pattern
  refine FnA.of F sc__law_pattern b (fun vs H Q E h => by first | (obtain ⟨rfl, _⟩ := h; rfl) | (obtain ⟨_, rfl, _⟩ := h; rfl) | (obtain ⟨_, _, rfl, _⟩ := h; rfl) | (obtain ⟨_, _, _, rfl, _⟩ := h; rfl) | (obtain ⟨_, _, _, _, rfl, _⟩ := h; rfl) | (obtain ⟨_, _, _, _, _, rfl, _⟩ := h; rfl) | (obtain ⟨_, _, _, _, _, _, rfl, _⟩ := h; rfl) | (obtain ⟨_, _, _, _, _, _, _, rfl, _⟩ := h; rfl) | (obtain ⟨_, _, _, _, _, _, _, _, rfl, _⟩ := h; rfl) | (obtain ⟨_, _, _, _, _, _, _, _, _, rfl, _⟩ := h; rfl) | (obtain ⟨_, _, _, _, _, _, _, _, _, _, rfl, _⟩ := h; rfl) | (obtain ⟨_, _, _, _, _, _, _, _, _, _, _, rfl, _⟩ := h; rfl) | (obtain ⟨_, _, _, _, _, _, _, _, _, _, _, _, rfl, _⟩ := h; rfl) | (obtain ⟨_, _, _, _, _, _, _, _, _, _, _, _, _, rfl, _⟩ := h; rfl) | (obtain ⟨_, _, _, _, _, _, _, _, _, _, _, _, _, _, rfl, _⟩ := h; rfl) | (obtain ⟨_, _, _, _, _, _, _, _, _, _, _, _, _, _, _, rfl, _⟩ := h; rfl) | (obtain ⟨_, _, _, _, _, _, _, _, _, _, _, _, _, _, _, _, rfl, _⟩ := h; rfl) | (obtain ⟨_, _, _, _, _, _, _, _, _, _, _, _, _, _, _, _, _, rfl, _⟩ := h; rfl) | (obtain ⟨_, _, _, _, _, _, _, _, _, _, _, _, _, _, _, _, _, _, rfl, _⟩ := h; rfl) | (obtain ⟨_, _, _, _, _, _, _, _, _, _, _, _, _, _, _, _, _, _, _, rfl, _⟩ := h; rfl) | (obtain ⟨_, _, _, _, _, _, _, _, _, _, _, _, _, _, _, _, _, _, _, _, rfl, _⟩ := h; rfl) | (obtain ⟨_, _, _, _, _, _, _, _, _, _, _, _, _, _, _, _, _, _, _, _, _, rfl, _⟩ := h; rfl) | (obtain ⟨_, _, _, _, _, _, _, _, _, _, _, _, _, _, _, _, _, _, _, _, _, _, rfl, _⟩ := h; rfl) | (obtain ⟨_, _, _, _, _, _, _, _, _, _, _, _, _, _, _, _, _, _, _, _, _, _, _, rfl, _⟩ := h; rfl)) (fun cdv A outer s H vs Q E hr tk pz h => ?_)
  have hu := hr.units
  have hrH := L2H.roomH_of hr
  obtain ⟨b, q, lo, hi, rfl, B, l0, h1, k⟩ := h
  refine ⟨_, (pss_cons (ps_if (PW.pt (pw_or (pt_cmpA (o_eq hu) (pe_callA G__law_take (Room.mono hr (by decide)) T.n__law_take tk (pa_cons (pv 0) (pa_cons pe_int pa_nil))) pe_int (nomark _)) (pw_or1 (pt_cmpA op_ge (pv 1) (pv 2) (nomark _))))) (pss_one (ps_ret (pe_lst pa_nil))) pss_nil)
      (pss_cons (ps_set (i := 3) sc__law_pattern.nd rfl (Or.inl rfl) (pe_op o_add (pv 1) (pe_callA G__law_take (Room.mono hr (by decide)) T.n__law_take tk (pa_cons (pv 0) (pa_cons (pe_op o_add (pe_op op_sub (pv 2) (pv 1)) pe_int) pa_nil)))))
      (pss_cons (ps_set (i := 4) sc__law_pattern.nd rfl (Or.inl rfl) (pe_op o_add (pv 3) pe_int))
      (pss_cut (ps_if (PW.pt (pw_or (pt_cmpA op_gt (pv 4) (pv 2) (nomark _)) (pw_or1 (PW.pt (pw_and (pt_cmpA op_gt (pv 3) (pv 1) (nomark _)) (pw_and1 (pt_cmpA (o_eq hu) (pe_callA G__law_take (Room.mono hr (by decide)) T.n__law_take tk (pa_cons (pv 0) (pa_cons pe_int pa_nil))) pe_int (nomark _)))))))) (pss_one (ps_set (i := 4) sc__law_pattern.nd rfl (Or.inl rfl) (pe_op op_sub (pv 3) pe_int))) pss_nil)
      (pss_one (ps_ret (pe_lst (pa_cons (pv 3) (pa_cons (pv 4) (pa_cons (pv 3) pa_nil)))))))))), ?_⟩
  show (_ : Ends → L2.St → Hp → Prop) _ [some _, some _, some _, none, none] _
  try dsimp only [L2H.cxH, cxOf]
  walk_at "w"
  refine ⟨b, q, 2, rfl, B, by omega, by omega, fun y H1 y0 y1 B1 k1 => ?_⟩
  have none_ : ∀ p, H1 p = none → Q (.ref p) (upd H1 p (.lst [])) := fun p hp => k p [] _ (k1.freeB B1 hp) upd_same (.inl rfl) (B1.kp (Kp.refl.new hp)) (k1.new hp)
  walk_at "w"
  refine w_ite (fun c1 => ?_) (fun c1 => ?_)
  · walk_at "w"
    intro p hp
    exact none_ p hp
  walk_at "w"
  refine w_ite (fun c2 => ?_) (fun c2 => ?_)
  · walk_at "w"
    intro p hp
    exact none_ p hp
  walk_at "w"
  refine ⟨b, q, _, rfl, B1, by omega, by omega, fun x H2 x0 x1 B2 k2 => ?_⟩
  have k02 := k1.trans k2
  walk_at "w"
  refine s_cut (fun σ' H' => ∃ o : Int, σ' = [some (.ref b), some (.int lo), some (.int hi), some (.int (lo + x)), some (.int o)] ∧ lo ≤ o ∧ o ≤ hi ∧ lo + x ≠ o ∧ Bx H' b q ∧ Kp [b, q] H H') ?_ ?_
  · walk_at "w"
    refine w_ite (fun c3 => ?_) (fun c3 => ?_)
    · walk_at "w"
      exact ⟨_, rfl, by omega, by omega, by omega, B2, k02⟩
    · walk_at "w"
      refine w_ite (fun c4 => ?_) (fun c4 => ?_)
      · walk_at "w"
        refine ⟨b, q, 2, rfl, B2, by omega, by omega, fun z H3 z0 z1 B3 k3 => ?_⟩
        walk_at "w"
        refine w_ite (fun c5 => ?_) (fun c5 => ?_)
        · walk_at "w"
          exact ⟨_, rfl, by omega, by omega, by omega, B3, k02.trans k3⟩
        · walk_at "w"
          exact ⟨_, rfl, by omega, by omega, by omega, B3, k02.trans k3⟩
      · walk_at "w"
        exact ⟨_, rfl, by omega, by omega, by omega, B2, k02⟩
  rintro σ' H3 ⟨o, rfl, o1, o2, o3, B3, k3⟩
  walk_at "w"
  intro p hp
  exact k p [lo + x, o, lo + x] _ (k3.freeB B3 hp) upd_same (.inr ⟨lo + x, o, rfl, by omega, by omega, o1, o2, o3⟩) (B3.kp (Kp.refl.new hp)) (k3.new hp)
/-- the log so far follows the pattern -/
def patUs : List Int → Nat → List Int
  | [x, y, _], k => [-x, -y, x].take k
  | _, _ => []
/-- changes of what was new to the start -/
theorem kp_newM {ms : List Addr} {H H1 H2 : Hp} {l r f : Addr} (k1 : Kp ms H H1) (hl : H l = none) (hr : H r = none) (hf : H f = none) (k2 : Kp [l, r, f] H1 H2) : Kp ms H H2 := fun b o e n => k2 b o (k1 b o e n) (by
  intro z
  simp only [List.mem_cons, List.mem_nil_iff, or_false] at z
  rcases z with rfl | rfl | rfl
  · rw [hl] at e; cases e
  · rw [hr] at e; cases e
  · rw [hf] at e; cases e)
/-- the deed of a node -/
def deedF (us : List Int) (v : Int) : Int := if cntN us v.toNat = 0 then -v else v
theorem pat_step {lo hi : Int} {pat : List Int} (h : PatOk lo hi pat) (l1 : 1 ≤ lo) {i : Nat} (hi' : i < pat.length) : lo ≤ pat.getD i default ∧ pat.getD i default ≤ hi ∧ cntN (patUs pat i) (pat.getD i default).toNat < 2 ∧ patUs pat (i + 1) = patUs pat i ++ [deedF (patUs pat i) (pat.getD i default)] ∧ pat.length = 3 := by
  rcases h with rfl | ⟨x, y, rfl, x1, x2, y1, y2, xy⟩
  · simp at hi'
  · have hl : i = 0 ∨ i = 1 ∨ i = 2 := by simp at hi'; omega
    rcases hl with rfl | rfl | rfl
    · exact ⟨x1, x2, by simp [cntN, patUs], by simp [patUs, deedF, cntN], rfl⟩
    · have e : cntN [-x] y.toNat = 0 := by
        rw [cnt_cons, if_neg (by omega)]; rfl
      refine ⟨y1, y2, ?_, ?_, rfl⟩
      · show cntN [-x] y.toNat < 2
        omega
      · show [-x, -y] = [-x] ++ [deedF [-x] y]
        unfold deedF
        rw [if_pos e]; rfl
    · have e : cntN [-x, -y] x.toNat = 1 := by
        rw [cnt_cons, cnt_cons, if_pos (by omega), if_neg (by omega)]; rfl
      refine ⟨x1, x2, ?_, ?_, rfl⟩
      · show cntN [-x, -y] x.toNat < 2
        omega
      · show [-x, -y, x] = [-x, -y] ++ [deedF [-x, -y] x]
        unfold deedF
        rw [if_neg (by omega)]; rfl
def Onc (n : Int) (us : List Int) : Prop := lgl n (fun _ => 0) us ∧ onceL us us.length

/-! ### what is due -/
theorem Onc.take {n : Int} {us : List Int} (h : Onc n us) (k : Nat) : Onc n (us.take k) := ⟨lgl_take h.1 k, once_take h.2 k⟩
theorem Onc.at_ {n : Int} {us : List Int} (h : Onc n us) {k : Nat} {o : Int} (hu : us[k]? = some o) : IsOp n o ∧ (cntN (us.take k) o.natAbs % 2 = 0 ↔ o < 0) ∧ cntN (us.take k) o.natAbs < 2 := by
  have h1 := h.take (k + 1)
  rw [take_snoc hu] at h1
  obtain ⟨h2, h3⟩ := lgl_one.mp (lgl_app.mp h1.1).2
  have hc := once_cnt o.natAbs (by have := h2.1; omega) _ h1.1 h1.2
  rw [cnt_snoc, if_pos rfl] at hc
  exact ⟨h2, by simpa using h3, by omega⟩
theorem Onc.ok {n : Int} (n0 : 0 ≤ n) (n1 : n ≤ 60) {us : List Int} (h : Onc n us) : okTo n (s0 n) us us.length := (ok_lgl n0 n1).mpr h.1
theorem Onc.wf {n : Int} (n0 : 0 ≤ n) (n1 : n ≤ 60) {us : List Int} (h : Onc n us) : WFs n (runS (s0 n) us) := by
  have := runS_wf (wfs0 n0 n1) us.length (Nat.le_refl _) (h.ok n0 n1)
  rwa [List.take_length] at this
theorem Onc.flag {n : Int} (n0 : 0 ≤ n) (n1 : n ≤ 60) {us : List Int} (h : Onc n us) (v : Nat) (v1 : 1 ≤ v) (v2 : (v : Int) ≤ n) : (runS (s0 n) us).2.2.getD v default = decide (cntN us v % 2 = 1) := by
  have := flag_cnt n0 n1 us.length (Nat.le_refl _) (h.ok n0 n1) v v1 v2
  rwa [List.take_length] at this
theorem once_ok {a : AD} {n : Int} (n0 : 0 ≤ n) (n1 : n ≤ 60) {us : List Int} (h : Onc n us) {H : Hp} {E : XK} {k : Prop} (hk : k) : onceSp a n us H E k :=
  log_ok n0 n1 (h.ok n0 n1) ⟨fun i ⟨o, h1, h2, h3, _⟩ => absurd h3 (h.2 i o (List.getElem?_eq_some_iff.mp h1).1 h1 h2), fun _ => hk⟩
def lateQ (n : Int) (log : List Int) (k : Nat) : List (List Int) := (List.range k).flatMap fun i => (lateF (runS (s0 n) (log.take i)) (bkF log i) ((log.getD i default).natAbs : Int)).map fun g => [(i : Int), g]
theorem lateP_int (n : Int) (log : List Int) (k : Nat) : lateP n log k = (lateQ n log k).map fun r => r.map V.int := by
  unfold lateP lateQ lateR
  rw [List.map_flatMap]
  congr 1
  funext i
  rw [List.map_map]; rfl
theorem full_iff {n : Int} (n0 : 0 ≤ n) (n1 : n ≤ 60) {us st : List Int} (h : Onc n us) (hs : StOk n us st) : (!decide ((1 : Int) ∈ st)) = decide (outL n (runS (s0 n) us).2.2 = []) := by
  have key : (1 : Int) ∉ st ↔ outL n (runS (s0 n) us).2.2 = [] := by
    rw [outL_nil]
    constructor
    · intro hn v v1 v2
      rw [h.flag n0 n1 v v1 v2]
      have hc := once_cnt v v1 us h.1 h.2
      have ha := hs.at_ v v1 v2
      have hl := hs.len
      refine decide_eq_false fun z => hn ?_
      have : st.getD v default = 1 := by omega
      rw [← this, List.getD_eq_getElem?_getD, List.getElem?_eq_getElem (show v < st.length by omega)]
      exact List.getElem_mem _
    · intro hv hm
      obtain ⟨i, hi, e⟩ := List.getElem_of_mem hm
      have hl := hs.len
      have eg : st.getD i default = 1 := by rw [List.getD_eq_getElem?_getD, List.getElem?_eq_getElem hi, e]; rfl
      by_cases z : i = 0
      · rw [z, hs.lo] at eg; cases eg
      · by_cases z2 : i = (n + 1).toNat
        · rw [z2, hs.hi] at eg; cases eg
        · have h1 := hv i (by omega) (by omega)
          rw [h.flag n0 n1 i (by omega) (by omega)] at h1
          have ha := hs.at_ i (by omega) (by omega)
          have := of_decide_eq_false h1
          omega
  by_cases c : (1 : Int) ∈ st
  · rw [decide_eq_true c, decide_eq_false (fun z => key.mpr z c)]; rfl
  · rw [decide_eq_false c, decide_eq_true (key.mp c)]; rfl

/-! ### what an operation does to the states -/
/-- the state that the gap left of the node comes to, where it may change -/
def endA (R L : List Int) (o : Int) : Option Str :=
  let lo := L.getD o.natAbs default
  if lo = (o.natAbs : Int) - 1 ∧ o > 0 then some "joined" else if lo = (o.natAbs : Int) - 1 then some "right" else if stateOf R L lo = ("joined" : Str) then some "right" else if stateOf R L lo = ("left" : Str) then some "lost" else none
def endB (R L : List Int) (o : Int) : Option Str :=
  let hi := R.getD o.natAbs default
  if hi = (o.natAbs : Int) + 1 ∧ o > 0 then some "joined" else if hi = (o.natAbs : Int) + 1 then some "left" else if stateOf R L (hi - 1) = ("joined" : Str) then some "left" else if stateOf R L (hi - 1) = ("right" : Str) then some "lost" else none
theorem getD_set {us : List Int} {i j : Nat} {u : Int} (h : i < us.length) : (us.set i u).getD j default = if i = j then u else us.getD j default := by
  by_cases z : i = j
  · subst z
    rw [if_pos rfl, getD_set_eq h]
  · rw [if_neg z, getD_set_ne z]
/-- the two links that a gap's state is made of, behind an operation -/
theorem ap_R {n : Int} {R L : List Int} {F : List Bool} (w : WF n R L F) {o : Int} (h : IsOp n o) (g : Int) (g0 : 0 ≤ g) : (apR L R o).getD g.toNat default = if g = L.getD o.natAbs default then (if o < 0 then R.getD o.natAbs default else (o.natAbs : Int)) else R.getD g.toNat default := by
  have h1 := h.1
  have h2 := h.2
  have q := w.at (v := o.natAbs) (by omega) h2
  have hR := w.hR
  unfold apR
  rw [getD_set (by omega)]
  by_cases z : g = L.getD o.natAbs default
  · rw [if_pos (by omega), if_pos z]
  · rw [if_neg (by omega), if_neg z]
theorem ap_L {n : Int} {R L : List Int} {F : List Bool} (w : WF n R L F) {o : Int} (h : IsOp n o) (g : Int) (g0 : 0 ≤ g) : (apL L R o).getD (g + 1).toNat default = if g + 1 = R.getD o.natAbs default then (if o < 0 then L.getD o.natAbs default else (o.natAbs : Int)) else L.getD (g + 1).toNat default := by
  have h1 := h.1
  have h2 := h.2
  have q := w.at (v := o.natAbs) (by omega) h2
  have hL := w.hL
  unfold apL
  rw [getD_set (by omega)]
  by_cases z : g + 1 = R.getD o.natAbs default
  · rw [if_pos (by omega), if_pos z]
  · rw [if_neg (by omega), if_neg z]
/-- another gap keeps its state -/
theorem ap_other {n : Int} {R L : List Int} {F : List Bool} (w : WF n R L F) {o : Int} (h : IsOp n o) {g : Int} (g0 : 0 ≤ g) (z1 : g ≠ L.getD o.natAbs default) (z2 : g ≠ R.getD o.natAbs default - 1) : stateOf (apR L R o) (apL L R o) g = stateOf R L g := by
  unfold stateOf
  rw [ap_R w h g g0, ap_L w h g g0, if_neg z1, if_neg (show ¬g + 1 = R.getD o.natAbs default by omega)]
/-- the left of the two gaps -/
theorem ap_low {n : Int} {R L : List Int} {F : List Bool} (w : WF n R L F) {o : Int} (h : IsOp n o) : stateOf (apR L R o) (apL L R o) (L.getD o.natAbs default) = (endA R L o).getD (stateOf R L (L.getD o.natAbs default)) := by
  have h1 := h.1
  have h2 := h.2
  have q := w.at (v := o.natAbs) (by omega) h2
  have eR := ap_R w h (L.getD o.natAbs default) q.1
  have eL := ap_L w h (L.getD o.natAbs default) q.1
  rw [if_pos rfl] at eR
  rw [if_neg (by omega)] at eL
  have hv : L.getD o.natAbs default = (o.natAbs : Int) - 1 → (L.getD o.natAbs default + 1).toNat = o.natAbs := fun z => by omega
  unfold endA
  dsimp only
  generalize hlo : L.getD o.natAbs default = lo at q eR eL hv ⊢
  generalize hhi : R.getD o.natAbs default = hi at q eR eL ⊢
  by_cases c1 : lo = (o.natAbs : Int) - 1
  · have e3 := hv c1
    have e4 : L.getD (lo + 1).toNat default = lo := by rw [e3]; exact hlo
    rw [e4] at eL
    by_cases c2 : o > 0
    · rw [if_pos ⟨c1, c2⟩]
      unfold stateOf
      rw [eR, eL, if_neg (show ¬o < 0 by omega), if_pos (show (o.natAbs : Int) = lo + 1 by omega), if_pos rfl]
      rfl
    · rw [if_neg (fun z => c2 z.2), if_pos c1]
      unfold stateOf
      rw [eR, eL, if_pos (show o < 0 by omega), if_neg (show ¬hi = lo + 1 by omega), if_pos rfl]
      rfl
  · rw [if_neg (fun z => c1 z.1), if_neg c1]
    have e5 : ¬(if o < 0 then hi else (o.natAbs : Int)) = lo + 1 := by split <;> omega
    have e6 : stateOf (apR L R o) (apL L R o) lo = if L.getD (lo + 1).toNat default = lo then ("right" : Str) else "lost" := by
      unfold stateOf
      rw [eR, if_neg e5, eL]
    rw [e6]
    unfold stateOf
    by_cases d1 : R.getD lo.toNat default = lo + 1
    · rw [if_pos d1]
      by_cases d2 : L.getD (lo + 1).toNat default = lo
      · rw [if_pos d2, if_pos d2, if_pos rfl]; rfl
      · rw [if_neg d2, if_neg d2, if_neg (by decide), if_pos rfl]; rfl
    · rw [if_neg d1]
      by_cases d2 : L.getD (lo + 1).toNat default = lo
      · rw [show (if L.getD (lo + 1).toNat default = lo then ("right" : Str) else "lost") = "right" from if_pos d2, if_neg (by decide), if_neg (by decide)]; rfl
      · rw [show (if L.getD (lo + 1).toNat default = lo then ("right" : Str) else "lost") = "lost" from if_neg d2, if_neg (by decide), if_neg (by decide)]; rfl
/-- the right of the two gaps -/
theorem ap_high {n : Int} {R L : List Int} {F : List Bool} (w : WF n R L F) {o : Int} (h : IsOp n o) : stateOf (apR L R o) (apL L R o) (R.getD o.natAbs default - 1) = (endB R L o).getD (stateOf R L (R.getD o.natAbs default - 1)) := by
  have h1 := h.1
  have h2 := h.2
  have q := w.at (v := o.natAbs) (by omega) h2
  have eR := ap_R w h (R.getD o.natAbs default - 1) (by omega)
  have eL := ap_L w h (R.getD o.natAbs default - 1) (by omega)
  rw [if_neg (by omega)] at eR
  rw [if_pos (by omega)] at eL
  unfold endB
  dsimp only
  have hv : R.getD o.natAbs default = (o.natAbs : Int) + 1 → R.getD (R.getD o.natAbs default - 1).toNat default = R.getD o.natAbs default := fun z => by rw [show (R.getD o.natAbs default - 1).toNat = o.natAbs by omega]
  generalize hlo : L.getD o.natAbs default = lo at q eR eL ⊢
  generalize hhi : R.getD o.natAbs default = hi at q eR eL hv ⊢
  rw [show hi - 1 + 1 = hi by omega] at eL
  by_cases c1 : hi = (o.natAbs : Int) + 1
  · have e4 : R.getD (hi - 1).toNat default = hi := hv c1
    rw [e4] at eR
    by_cases c2 : o > 0
    · rw [if_pos ⟨c1, c2⟩]
      unfold stateOf
      rw [eR, show hi - 1 + 1 = hi by omega, if_pos rfl, eL, if_neg (show ¬o < 0 by omega), if_pos (show (o.natAbs : Int) = hi - 1 by omega)]
      rfl
    · rw [if_neg (fun z => c2 z.2), if_pos c1]
      unfold stateOf
      rw [eR, show hi - 1 + 1 = hi by omega, if_pos rfl, eL, if_pos (show o < 0 by omega), if_neg (show ¬lo = hi - 1 by omega)]
      rfl
  · rw [if_neg (fun z => c1 z.1), if_neg c1]
    have e5 : ¬(if o < 0 then lo else (o.natAbs : Int)) = hi - 1 := by split <;> omega
    have e6 : stateOf (apR L R o) (apL L R o) (hi - 1) = if R.getD (hi - 1).toNat default = hi then ("left" : Str) else "lost" := by
      unfold stateOf
      rw [show hi - 1 + 1 = hi by omega, eL, if_neg e5, if_neg e5, eR]
    rw [e6]
    unfold stateOf
    rw [show hi - 1 + 1 = hi by omega]
    by_cases d1 : R.getD (hi - 1).toNat default = hi
    · rw [if_pos d1, if_pos d1]
      by_cases d2 : L.getD hi.toNat default = hi - 1
      · rw [if_pos d2, if_pos rfl]; rfl
      · rw [if_neg d2, if_neg (by decide), if_neg (by decide)]; rfl
    · rw [if_neg d1, if_neg d1]
      by_cases d2 : L.getD hi.toNat default = hi - 1
      · rw [if_pos d2, if_neg (by decide), if_pos rfl]; rfl
      · rw [if_neg d2, if_neg (by decide), if_neg (by decide)]; rfl

/-! ### what ever happened in a log -/
def everP (P : List Int → Int → Prop) (us : List Int) : Prop := ∃ pre o, pre ++ [o] <+: us ∧ P pre o
theorem ever_nil {P : List Int → Int → Prop} : ¬everP P [] := by
  rintro ⟨pre, o, h, _⟩
  have := h.length_le
  simp at this
theorem ever_snoc {P : List Int → Int → Prop} {us : List Int} {o : Int} : everP P (us ++ [o]) ↔ everP P us ∨ P us o := by
  constructor
  · rintro ⟨pre, p, h, hp⟩
    rcases List.prefix_concat_iff.mp h with z | z
    · have e := List.append_inj' z rfl
      obtain ⟨rfl, e2⟩ := e
      cases e2
      exact .inr hp
    · exact .inl ⟨pre, p, z, hp⟩
  · rintro (⟨pre, p, h, hp⟩ | h)
    · exact ⟨pre, p, h.trans (List.prefix_append _ _), hp⟩
    · exact ⟨us, o, List.prefix_refl _, h⟩
def aP (n : Int) (us : List Int) (g : Nat) : Prop := (runS (s0 n) us).1.getD g default = (g : Int) + 1
def cP (n : Int) (us : List Int) (g : Nat) : Prop := (runS (s0 n) us).2.1.getD (g + 1) default = (g : Int)
def Av (n : Int) (g : Nat) : List Int → Prop := everP fun pre o => o < 0 ∧ o.natAbs = g + 1 ∧ cP n pre g
def Bv (n : Int) (g : Nat) : List Int → Prop := everP fun pre o => o < 0 ∧ o.natAbs = g ∧ aP n pre g
def Lv (n : Int) (g : Nat) : List Int → Prop := everP fun pre o => (g : Int) ∈ lateF (runS (s0 n) pre) (bkF pre pre.length) (o.natAbs : Int)
/-- what is true of a gap at every moment of a once-only log -/
structure GI (n : Int) (us : List Int) (g : Nat) : Prop where
  j1 : ∀ v : Nat, g + 1 < v → (v : Int) ≤ n → (runS (s0 n) us).2.1.getD v default = (g : Int) → Av n g us
  j2 : ∀ v : Nat, 1 ≤ v → v < g → (runS (s0 n) us).1.getD v default = (g : Int) + 1 → Bv n g us
  j : (¬Av n g us → aP n us g) ∧ (¬Bv n g us → cP n us g) ∧ (Av n g us → 1 ≤ cntN us (g + 1)) ∧ (Bv n g us → 1 ≤ cntN us g) ∧ (Bv n g us → cntN us g = 1 → ¬cP n us g) ∧ (Av n g us → cntN us (g + 1) = 1 → ¬aP n us g) ∧
    (cntN us (g + 1) = 1 → ¬cP n us g → aP n us g ∨ Lv n g us) ∧ (cntN us g = 1 → ¬aP n us g → cP n us g ∨ Lv n g us) ∧ (cntN us (g + 1) = 2 → ¬aP n us g → Lv n g us) ∧ (cntN us g = 2 → ¬cP n us g → Lv n g us) ∧ (Lv n g us → (cntN us (g + 1) = 2 ∧ ¬aP n us g) ∨ (cntN us g = 2 ∧ ¬cP n us g))
theorem gi_step {v lo hi g k1 k2 kv : Nat} {neg a c A B lt a' c' A' B' lt' : Prop} (l1 : lo < v) (l2 : v < hi) (kv2 : kv < 2) (hn : neg ↔ kv = 0) (e1 : v = g → kv = k1) (e2 : v = g + 1 → kv = k2)
    (hA : A' ↔ A ∨ (neg ∧ v = g + 1 ∧ c)) (hB : B' ↔ B ∨ (neg ∧ v = g ∧ a))
    (ha1 : g = lo → (a' ↔ ¬neg ∧ v = g + 1)) (ha2 : g ≠ lo → (a' ↔ a)) (hc1 : g + 1 = hi → (c' ↔ ¬neg ∧ v = g)) (hc2 : g + 1 ≠ hi → (c' ↔ c))
    (hl : lt' ↔ lt ∨ (lo + 1 ≠ v ∧ g = lo ∧ k2 = 2) ∨ (hi ≠ v + 1 ∧ g + 1 = hi ∧ k1 = 2))
    (f1 : v = g + 1 → (lo = g ↔ c)) (f2 : v = g → (hi = g + 1 ↔ a)) (f3 : g + 1 < v → lo = g → A) (f4 : v < g → hi = g + 1 → B)
    (j : (¬A → a) ∧ (¬B → c) ∧ (A → 1 ≤ k2) ∧ (B → 1 ≤ k1) ∧ (B → k1 = 1 → ¬c) ∧ (A → k2 = 1 → ¬a) ∧ (k2 = 1 → ¬c → a ∨ lt) ∧ (k1 = 1 → ¬a → c ∨ lt) ∧ (k2 = 2 → ¬a → lt) ∧ (k1 = 2 → ¬c → lt) ∧ (lt → (k2 = 2 ∧ ¬a) ∨ (k1 = 2 ∧ ¬c))) (m1 : k1 ≤ 2) (m2 : k2 ≤ 2) :
    (¬A' → a') ∧ (¬B' → c') ∧ (A' → 1 ≤ k2 + if v = g + 1 then 1 else 0) ∧ (B' → 1 ≤ k1 + if v = g then 1 else 0) ∧ (B' → (k1 + if v = g then 1 else 0) = 1 → ¬c') ∧ (A' → (k2 + if v = g + 1 then 1 else 0) = 1 → ¬a') ∧
    ((k2 + if v = g + 1 then 1 else 0) = 1 → ¬c' → a' ∨ lt') ∧ ((k1 + if v = g then 1 else 0) = 1 → ¬a' → c' ∨ lt') ∧ ((k2 + if v = g + 1 then 1 else 0) = 2 → ¬a' → lt') ∧ ((k1 + if v = g then 1 else 0) = 2 → ¬c' → lt') ∧ (lt' → ((k2 + if v = g + 1 then 1 else 0) = 2 ∧ ¬a') ∨ ((k1 + if v = g then 1 else 0) = 2 ∧ ¬c')) := by
  obtain ⟨j3, j3', j4, j4', j7, j7', j6, j6', j5, j5', j9⟩ := j
  refine ⟨?_, ?_, ?_, ?_, ?_, ?_, ?_, ?_, ?_, ?_, ?_⟩ <;> grind
theorem cnt_zero {n : Int} {us : List Int} (h : lgl n (fun _ => 0) us) : cntN us 0 = 0 := by
  unfold cntN
  rw [List.length_eq_zero_iff, List.filter_eq_nil_iff]
  intro o ho
  have := (lgl_op h o ho).1
  simp; omega
theorem gi_all {n : Int} (n0 : 0 ≤ n) (n1 : n ≤ 60) {g : Nat} (hg : (g : Int) ≤ n) (us : List Int) : Onc n us → GI n us g := by
  refine snoc_ind (P := fun us => Onc n us → GI n us g) ?_ ?_ us
  · intro _
    have hL : ∀ v : Nat, (v : Int) ≤ n + 1 → (runS (s0 n) []).2.1.getD v default = (v : Int) - 1 := fun v hv => by
      show (l0 n).getD v default = _
      unfold l0
      rw [List.getD_eq_getElem?_getD, List.getElem?_map, List.getElem?_range (by omega)]; rfl
    have hR : ∀ v : Nat, (v : Int) ≤ n → (runS (s0 n) []).1.getD v default = (v : Int) + 1 := fun v hv => by
      show (r0 n).getD v default = _
      unfold r0
      rw [List.getD_eq_getElem?_getD, List.getElem?_map, List.getElem?_range (by omega)]; rfl
    have ha : aP n [] g := hR g hg
    have hc : cP n [] g := by
      have := hL (g + 1) (by omega)
      unfold cP
      rw [this]; omega
    have nA : ¬Av n g [] := ever_nil
    have nB : ¬Bv n g [] := ever_nil
    have nL : ¬Lv n g [] := ever_nil
    have z1 : cntN [] (g + 1) = 0 := rfl
    have z2 : cntN [] g = 0 := rfl
    refine ⟨fun v h1 h2 h3 => ?_, fun v h1 h2 h3 => ?_, ?_⟩
    · rw [hL v (by omega)] at h3; omega
    · rw [hR v (by omega)] at h3; omega
    · rw [z1, z2]
      refine ⟨fun _ => ha, fun _ => hc, fun z => absurd z nA, fun z => absurd z nB, fun z => absurd z nB, fun z => absurd z nA, fun z => by omega, fun z => by omega, fun z => by omega, fun z => by omega, fun z => absurd z nL⟩
  · intro us o ih h
    have hus : Onc n us := by
      have := h.take us.length
      rwa [List.take_append_of_le_length (Nat.le_refl _), List.take_length] at this
    obtain ⟨i1, i2, ij⟩ := ih hus
    obtain ⟨hop, hpar⟩ := lgl_one.mp (lgl_app.mp h.1).2
    have ho1 := hop.1
    have ho2 := hop.2
    have hpar : cntN us o.natAbs % 2 = 0 ↔ o < 0 := by simpa using hpar
    have hkv : cntN us o.natAbs < 2 := by
      have := once_cnt o.natAbs (by omega) _ h.1 h.2
      rw [cnt_snoc, if_pos rfl] at this
      omega
    have W := hus.wf n0 n1
    have q := WF.at W (v := o.natAbs) (by omega) ho2
    have aR := fun (x : Nat) => ap_R W hop (x : Int) (by omega)
    have aL := fun (x : Nat) => ap_L W hop (x : Int) (by omega)
    simp only [Int.toNat_natCast] at aR aL
    have hbk : ∀ u : Nat, 1 ≤ u → (u : Int) ≤ n → (bkF us us.length (u : Int) = true ↔ cntN us u = 2) := fun u u1 u2 => by
      have hm := cnt_mem u u1 us hus.1
      have hc := once_cnt u u1 us hus.1 hus.2
      unfold bkF
      rw [List.take_length, decide_eq_true_iff]
      exact ⟨fun z => by have := hm.2.2.1 z.2; omega, fun z => ⟨by omega, hm.2.1 (by omega)⟩⟩
    have m1 : cntN us g ≤ 2 := by
      by_cases z : g = 0
      · rw [z, cnt_zero hus.1]; omega
      · exact once_cnt g (by omega) us hus.1 hus.2
    have m2 : cntN us (g + 1) ≤ 2 := once_cnt (g + 1) (by omega) us hus.1 hus.2
    have hA' : Av n g (us ++ [o]) ↔ Av n g us ∨ (o < 0 ∧ o.natAbs = g + 1 ∧ cP n us g) := ever_snoc
    have hB' : Bv n g (us ++ [o]) ↔ Bv n g us ∨ (o < 0 ∧ o.natAbs = g ∧ aP n us g) := ever_snoc
    have hL' : Lv n g (us ++ [o]) ↔ Lv n g us ∨ (g : Int) ∈ lateF (runS (s0 n) us) (bkF us us.length) (o.natAbs : Int) := ever_snoc
    have eR : ∀ x : Nat, (runS (s0 n) (us ++ [o])).1.getD x default = if (x : Int) = (runS (s0 n) us).2.1.getD o.natAbs default then (if o < 0 then (runS (s0 n) us).1.getD o.natAbs default else (o.natAbs : Int)) else (runS (s0 n) us).1.getD x default := fun x => by
      have := aR x
      rw [runS_snoc]
      exact this
    have eL : ∀ x : Nat, (runS (s0 n) (us ++ [o])).2.1.getD (x + 1) default = if (x : Int) + 1 = (runS (s0 n) us).1.getD o.natAbs default then (if o < 0 then (runS (s0 n) us).2.1.getD o.natAbs default else (o.natAbs : Int)) else (runS (s0 n) us).2.1.getD (x + 1) default := fun x => by
      have := aL x
      rw [show ((x : Int) + 1).toNat = x + 1 by omega] at this
      rw [runS_snoc]
      exact this
    obtain ⟨lo, hlo⟩ := Int.eq_ofNat_of_zero_le q.1
    obtain ⟨hi, hhi⟩ := Int.eq_ofNat_of_zero_le (show 0 ≤ (runS (s0 n) us).1.getD o.natAbs default by omega)
    have l1 : lo < o.natAbs := by have := q.2.1; omega
    have l2 : o.natAbs < hi := by have := q.2.2; omega
    have hin : (hi : Int) ≤ n + 1 := by have := q.2.2; omega
    rw [hlo] at eR
    rw [hhi] at eL
    have ha1 : g = lo → (aP n (us ++ [o]) g ↔ ¬o < 0 ∧ o.natAbs = g + 1) := fun z => by
      unfold aP
      rw [eR g, if_pos (by omega)]
      by_cases c : o < 0
      · rw [if_pos c, hhi]; omega
      · rw [if_neg c]; omega
    have ha2 : g ≠ lo → (aP n (us ++ [o]) g ↔ aP n us g) := fun z => by
      unfold aP
      rw [eR g, if_neg (by omega)]
    have hc1 : g + 1 = hi → (cP n (us ++ [o]) g ↔ ¬o < 0 ∧ o.natAbs = g) := fun z => by
      unfold cP
      rw [eL g, if_pos (by omega)]
      by_cases c : o < 0
      · rw [if_pos c, hlo]; omega
      · rw [if_neg c]; omega
    have hc2 : g + 1 ≠ hi → (cP n (us ++ [o]) g ↔ cP n us g) := fun z => by
      unfold cP
      rw [eL g, if_neg (by omega)]
    have hl : (g : Int) ∈ lateF (runS (s0 n) us) (bkF us us.length) (o.natAbs : Int) ↔ (lo + 1 ≠ o.natAbs ∧ g = lo ∧ cntN us (g + 1) = 2) ∨ (hi ≠ o.natAbs + 1 ∧ g + 1 = hi ∧ cntN us g = 2) := by
      unfold lateF
      rw [List.mem_append, Int.toNat_natCast, hlo, hhi]
      have e1 : ((lo : Int) + 1) = ((lo + 1 : Nat) : Int) := by omega
      have e2 : ((hi : Int) - 1) = ((hi - 1 : Nat) : Int) := by omega
      rw [e1, e2]
      have b1 := hbk (lo + 1) (by omega) (by omega)
      have b2 := hbk (hi - 1) (by omega) (by omega)
      constructor
      · rintro (z | z)
        · split at z
          · rename_i c
            have := List.mem_singleton.mp z
            obtain rfl : g = lo := by omega
            exact .inl ⟨by omega, rfl, b1.mp c.2⟩
          · exact absurd z List.not_mem_nil
        · split at z
          · rename_i c
            have := List.mem_singleton.mp z
            obtain rfl : g = hi - 1 := by omega
            exact .inr ⟨by omega, by omega, b2.mp c.2⟩
          · exact absurd z List.not_mem_nil
      · rintro (⟨z1, z2, z3⟩ | ⟨z1, z2, z3⟩)
        · left
          subst z2
          rw [if_pos ⟨by omega, b1.mpr z3⟩]
          exact List.mem_singleton.mpr rfl
        · right
          obtain rfl : g = hi - 1 := by omega
          rw [if_pos ⟨by omega, b2.mpr z3⟩]
          exact List.mem_singleton.mpr rfl
    rw [hl] at hL'
    have f1 : o.natAbs = g + 1 → (lo = g ↔ cP n us g) := fun z => by
      unfold cP
      rw [← z, hlo]; omega
    have f2 : o.natAbs = g → (hi = g + 1 ↔ aP n us g) := fun z => by
      unfold aP
      rw [← z, hhi]; omega
    have f3 : g + 1 < o.natAbs → lo = g → Av n g us := fun z1 z2 => i1 o.natAbs z1 ho2 (by rw [hlo, z2])
    have f4 : o.natAbs < g → hi = g + 1 → Bv n g us := fun z1 z2 => i2 o.natAbs (by omega) z1 (by rw [hhi, z2]; omega)
    refine ⟨fun v v1 v2 hv => ?_, fun v v1 v2 hv => ?_, ?_⟩
    · obtain ⟨x, rfl⟩ : ∃ x, v = x + 1 := ⟨v - 1, by omega⟩
      rw [eL x] at hv
      rw [hA']
      by_cases c : (x : Int) + 1 = (hi : Int)
      · rw [if_pos c] at hv
        by_cases d : o < 0
        · rw [if_pos d, hlo] at hv
          by_cases e : o.natAbs = g + 1
          · exact .inr ⟨d, e, (f1 e).mp (by omega)⟩
          · exact .inl (f3 (by omega) (by omega))
        · rw [if_neg d] at hv
          refine .inl (Classical.byContradiction fun y => ?_)
          have := (f2 (by omega)).mpr (ij.1 y)
          omega
      · rw [if_neg c] at hv
        exact .inl (i1 (x + 1) v1 v2 hv)
    · rw [eR v] at hv
      rw [hB']
      by_cases c : (v : Int) = (lo : Int)
      · rw [if_pos c] at hv
        by_cases d : o < 0
        · rw [if_pos d, hhi] at hv
          by_cases e : o.natAbs = g
          · exact .inr ⟨d, e, (f2 e).mp (by omega)⟩
          · exact .inl (f4 (by omega) (by omega))
        · rw [if_neg d] at hv
          refine .inl (Classical.byContradiction fun y => ?_)
          have := (f1 (by omega)).mpr (ij.2.1 y)
          omega
      · rw [if_neg c] at hv
        exact .inl (i2 v v1 v2 hv)
    · rw [cnt_snoc, cnt_snoc]
      exact gi_step (kv := cntN us o.natAbs) l1 l2 hkv ⟨fun z => by have := hpar.mpr z; omega, fun z => hpar.mp (by omega)⟩ (fun z => by rw [z]) (fun z => by rw [z]) hA' hB' ha1 ha2 hc1 hc2 hL' f1 f2 f3 f4 ij m1 m2
/-! ### what follows for the gaps -/
theorem cnt_far {n : Int} {us : List Int} (h : lgl n (fun _ => 0) us) {v : Nat} (hv : n < (v : Int)) : cntN us v = 0 := by
  unfold cntN
  rw [List.length_eq_zero_iff, List.filter_eq_nil_iff]
  intro o ho
  have := (lgl_op h o ho).2
  simp; omega
def Cmp (n : Int) (us : List Int) : Prop := ∀ v : Nat, 1 ≤ v → (v : Int) ≤ n → cntN us v ≠ 1
theorem late_iff {n : Int} (n0 : 0 ≤ n) (n1 : n ≤ 60) {us : List Int} (h : Onc n us) (hc : Cmp n us) {g : Nat} (hg : (g : Int) ≤ n) : Lv n g us ↔ stateOf (runS (s0 n) us).1 (runS (s0 n) us).2.1 (g : Int) ≠ ("joined" : Str) := by
  obtain ⟨_, _, ij⟩ := gi_all n0 n1 hg us h
  have js : stateOf (runS (s0 n) us).1 (runS (s0 n) us).2.1 (g : Int) = ("joined" : Str) ↔ aP n us g ∧ cP n us g := by
    rw [state_joined, Int.toNat_natCast, show ((g : Int) + 1).toNat = g + 1 by omega]; rfl
  have c1 : cntN us g ≠ 1 := by
    by_cases z : g = 0
    · rw [z, cnt_zero h.1]; omega
    · exact hc g (by omega) hg
  have c2 : cntN us (g + 1) ≠ 1 := by
    by_cases z : ((g + 1 : Nat) : Int) ≤ n
    · exact hc (g + 1) (by omega) z
    · rw [cnt_far h.1 (by omega)]; omega
  have m1 : cntN us g ≤ 2 := by
    by_cases z : g = 0
    · rw [z, cnt_zero h.1]; omega
    · exact once_cnt g (by omega) us h.1 h.2
  have m2 : cntN us (g + 1) ≤ 2 := once_cnt (g + 1) (by omega) us h.1 h.2
  rw [Ne, js]
  obtain ⟨j3, j3', j4, j4', j7, j7', j6, j6', j5, j5', j9⟩ := ij
  constructor
  · intro hl hj
    rcases j9 hl with z | z
    · exact z.2 hj.1
    · exact z.2 hj.2
  · intro hj
    by_cases ha : aP n us g
    · have hcn : ¬cP n us g := fun z => hj ⟨ha, z⟩
      have hB : Bv n g us := Classical.byContradiction fun z => hcn (j3' z)
      have := j4' hB
      exact j5' (by omega) hcn
    · have hA : Av n g us := Classical.byContradiction fun z => ha (j3 z)
      have := j4 hA
      exact j5 (by omega) ha
/-- as long as no write was late -/
theorem calm_gap {n : Int} (n0 : 0 ≤ n) (n1 : n ≤ 60) {us : List Int} (h : Onc n us) {g : Nat} (hg : (g : Int) ≤ n) (hl : ¬Lv n g us) : stateOf (runS (s0 n) us).1 (runS (s0 n) us).2.1 (g : Int) ≠ ("lost" : Str) ∧ (stateOf (runS (s0 n) us).1 (runS (s0 n) us).2.1 (g : Int) = ("right" : Str) → cntN us (g + 1) = 1) ∧ (stateOf (runS (s0 n) us).1 (runS (s0 n) us).2.1 (g : Int) = ("left" : Str) → cntN us g = 1) := by
  obtain ⟨_, _, ij⟩ := gi_all n0 n1 hg us h
  have m1 : cntN us g ≤ 2 := by
    by_cases z : g = 0
    · rw [z, cnt_zero h.1]; omega
    · exact once_cnt g (by omega) us h.1 h.2
  have m2 : cntN us (g + 1) ≤ 2 := once_cnt (g + 1) (by omega) us h.1 h.2
  obtain ⟨j3, j3', j4, j4', j7, j7', j6, j6', j5, j5', j9⟩ := ij
  have k1 : ¬aP n us g → cntN us (g + 1) = 1 := fun z => by
    have hA : Av n g us := Classical.byContradiction fun y => z (j3 y)
    have := j4 hA
    have : ¬cntN us (g + 1) = 2 := fun y => hl (j5 y z)
    omega
  have k2 : ¬cP n us g → cntN us g = 1 := fun z => by
    have hB : Bv n g us := Classical.byContradiction fun y => z (j3' y)
    have := j4' hB
    have : ¬cntN us g = 2 := fun y => hl (j5' y z)
    omega
  have e1 : ∀ x : Int, (runS (s0 n) us).1.getD ((g : Int)).toNat default = x ↔ (runS (s0 n) us).1.getD g default = x := fun x => by rw [Int.toNat_natCast]
  have e2 : ∀ x : Int, (runS (s0 n) us).2.1.getD ((g : Int) + 1).toNat default = x ↔ (runS (s0 n) us).2.1.getD (g + 1) default = x := fun x => by rw [show ((g : Int) + 1).toNat = g + 1 by omega]
  refine ⟨fun z => ?_, fun z => ?_, fun z => ?_⟩
  · have hs : ¬aP n us g ∧ ¬cP n us g := by
      unfold stateOf at z
      unfold aP cP
      rw [Int.toNat_natCast, show ((g : Int) + 1).toNat = g + 1 by omega] at z
      split at z
      · split at z <;> exact absurd z (by decide)
      · split at z
        · exact absurd z (by decide)
        · rename_i h1 h2
          exact ⟨by simpa using h1, by simpa using h2⟩
    rcases j6 (k1 hs.1) hs.2 with y | y
    · exact hs.1 y
    · exact hl y
  · exact k1 (fun y => (state_right.mp z).1 ((e1 _).mpr y))
  · exact k2 (fun y => (state_left.mp z).2 ((e2 _).mpr y))
/-- the pairs tell the gaps -/
theorem pairs_iff {n : Int} {us : List Int} {g : Nat} : Lv n g us ↔ ∃ i : Nat, [(i : Int), (g : Int)] ∈ lateQ n us us.length := by
  unfold lateQ
  constructor
  · rintro ⟨pre, o, hp, hm⟩
    obtain ⟨rest, rfl⟩ := hp
    refine ⟨pre.length, List.mem_flatMap.mpr ⟨pre.length, List.mem_range.mpr (by simp), List.mem_map.mpr ⟨(g : Int), ?_, rfl⟩⟩⟩
    have e1 : (pre ++ [o] ++ rest).take pre.length = pre := by
      rw [List.append_assoc, List.take_append_of_le_length (Nat.le_refl _), List.take_length]
    have e2 : (pre ++ [o] ++ rest).getD pre.length default = o := by
      rw [List.getD_eq_getElem?_getD, List.append_assoc, List.getElem?_append_right (Nat.le_refl _)]; simp
    have e3 : bkF (pre ++ [o] ++ rest) pre.length = bkF pre pre.length := by
      funext u
      unfold bkF
      rw [e1, List.take_length]
    rw [e1, e2, e3]
    exact hm
  · rintro ⟨i, hm⟩
    obtain ⟨k, hk, hm⟩ := List.mem_flatMap.mp hm
    have hk := List.mem_range.mp hk
    obtain ⟨x, hx, e⟩ := List.mem_map.mp hm
    simp only [List.cons.injEq, and_true] at e
    obtain ⟨_, rfl⟩ := e
    have hu : us[k]? = some (us.getD k default) := by simp [List.getD, List.getElem?_eq_getElem hk]
    refine ⟨us.take k, us.getD k default, ⟨us.drop (k + 1), ?_⟩, ?_⟩
    · rw [← take_snoc hu, List.take_append_drop]
    · have e3 : bkF (us.take k) (us.take k).length = bkF us k := by
        funext u
        unfold bkF
        rw [List.take_length]
      show _ ∈ lateF (runS (s0 n) (us.take k)) (bkF (us.take k) (us.take k).length) _
      rw [e3]
      exact hx
/-- the pairs ascend -/
def ascR (r t : List Int) : Prop := ∃ a b c d : Int, r = [a, b] ∧ t = [c, d] ∧ (a < c ∨ (a = c ∧ b < d))
theorem late_asc {n : Int} {s : List Int × List Int × List Bool} (W : WFs n s) {bk : Int → Bool} {v : Int} (v1 : 1 ≤ v) (v2 : v ≤ n) : (lateF s bk v).Pairwise (fun x y : Int => x < y) ∧ ∀ g ∈ lateF s bk v, 0 ≤ g ∧ g ≤ n := by
  have q := WF.at W (v := v.toNat) (by omega) (by omega)
  rw [show ((v.toNat : Nat) : Int) = v by omega] at q
  unfold lateF
  split
  · split
    · refine ⟨?_, fun g hg => ?_⟩
      · rw [List.singleton_append, List.pairwise_cons]
        exact ⟨fun y hy => by have := List.mem_singleton.mp hy; omega, by simp⟩
      · rcases List.mem_append.mp hg with z | z <;> (have := List.mem_singleton.mp z; omega)
    · exact ⟨by simp, fun g hg => by
        rcases List.mem_append.mp hg with z | z
        · have := List.mem_singleton.mp z; omega
        · exact absurd z List.not_mem_nil⟩
  · split
    · exact ⟨by simp, fun g hg => by
        rcases List.mem_append.mp hg with z | z
        · exact absurd z List.not_mem_nil
        · have := List.mem_singleton.mp z; omega⟩
    · exact ⟨by simp, fun g hg => by simp at hg⟩
theorem rows_in {n : Int} (n0 : 0 ≤ n) (n1 : n ≤ 60) {us : List Int} (h : Onc n us) : ∀ k, k ≤ us.length → (lateQ n us k).Pairwise ascR ∧ ∀ r ∈ lateQ n us k, ∃ (i : Nat) (g : Int), r = [(i : Int), g] ∧ i < k ∧ 0 ≤ g ∧ g ≤ n
  | 0, _ => ⟨by simp [lateQ], fun r hr => by simp [lateQ] at hr⟩
  | k + 1, hk => by
    obtain ⟨h1, h2⟩ := rows_in n0 n1 h k (by omega)
    have hu : us[k]? = some (us.getD k default) := by simp [List.getD, List.getElem?_eq_getElem (show k < us.length by omega)]
    obtain ⟨hop, _, _⟩ := h.at_ hu
    have ho1 := hop.1
    have hla := late_asc (bk := bkF us k) ((h.take k).wf n0 n1) (v := ((us.getD k default).natAbs : Int)) (by omega) hop.2
    have e : lateQ n us (k + 1) = lateQ n us k ++ (lateF (runS (s0 n) (us.take k)) (bkF us k) ((us.getD k default).natAbs : Int)).map fun g => [(k : Int), g] := by
      unfold lateQ; rw [List.range_succ, List.flatMap_append]; simp
    rw [e]
    generalize lateF (runS (s0 n) (us.take k)) (bkF us k) ((us.getD k default).natAbs : Int) = gs at hla
    refine ⟨List.pairwise_append.mpr ⟨h1, ?_, fun r hr t ht => ?_⟩, fun r hr => ?_⟩
    · rw [List.pairwise_map]
      refine hla.1.imp fun {x y} hxy => ?_
      exact ⟨_, _, _, _, rfl, rfl, .inr ⟨rfl, hxy⟩⟩
    · obtain ⟨i, g, rfl, hi, _⟩ := h2 r hr
      obtain ⟨y, _, rfl⟩ := List.mem_map.mp ht
      exact ⟨_, _, _, _, rfl, rfl, .inl (by omega)⟩
    · rcases List.mem_append.mp hr with z | z
      · obtain ⟨i, g, rfl, hi, h3⟩ := h2 r z
        exact ⟨i, g, rfl, by omega, h3⟩
      · obtain ⟨y, hy, rfl⟩ := List.mem_map.mp z
        exact ⟨k, y, rfl, by omega, hla.2 y hy⟩
/-! ### the drawn log -/
theorem full_all {lo m : Nat} {us : List Int} (h : ∀ o ∈ us, lo ≤ o.natAbs ∧ o.natAbs < lo + m) (hl : us.length = 2 * m) (h2 : ∀ j, j < m → cntN us (lo + j) ≤ 2) : ∀ j, j < m → cntN us (lo + j) = 2 := by
  have key : ∀ k, k ≤ m → ((List.range k).map fun j => cntN us (lo + j)).sum ≤ 2 * k ∧ (((List.range k).map fun j => cntN us (lo + j)).sum = 2 * k → ∀ j, j < k → cntN us (lo + j) = 2) := by
    intro k
    induction k with
    | zero => intro _; exact ⟨by simp, fun _ j hj => by omega⟩
    | succ k ih =>
      intro hk
      obtain ⟨i1, i2⟩ := ih (by omega)
      have h3 := h2 k (by omega)
      rw [List.range_succ, List.map_append, List.sum_append]
      simp only [List.map_cons, List.map_nil, List.sum_cons, List.sum_nil]
      refine ⟨by omega, fun z j hj => ?_⟩
      by_cases c : j < k
      · exact i2 (by omega) j c
      · obtain rfl : j = k := by omega
        omega
  have e := sum_cnt lo us m h
  exact (key m (Nat.le_refl _)).2 (by omega)
theorem fm_all {P : Int → Prop} [DecidablePred P] : ∀ {fs : List Int}, (∀ x ∈ fs, P x) → fs.filterMap (fun x => if P x then some x else none) = fs
  | [], _ => rfl
  | x :: fs, h => by
    rw [List.filterMap_cons, if_pos (h x List.mem_cons_self), fm_all (fun y hy => h y (List.mem_cons_of_mem _ hy))]
theorem cnt_out {us : List Int} {v : Nat} (h : ∀ o ∈ us, o.natAbs ≠ v) : cntN us v = 0 := by
  unfold cntN
  rw [List.length_eq_zero_iff, List.filter_eq_nil_iff]
  intro o ho
  simpa using h o ho
def sp__law_log (a : AD) : Sp := fun vs H Q _ => ∃ (b q : Addr) (n : Int), vs = [.ref b, .int n] ∧ Bx H b q ∧ 0 ≤ n ∧ n ≤ 60 ∧ ∀ (p : Addr) (us : List Int) (H' : Hp), H p = none → H' p = some (.lst (us.map V.int)) → Onc n us → Cmp n us → us.length ≤ 120 → Bx H' b q → Kp [b, q] H H' → Q (.ref p) H'
theorem sc__law_log : FnScope ["_law_box_here", "_law_size_here", "_law_ends", "_law_many", "_law_steps", "_law_care", "_law_slip", "_law_pattern_here", "_law_book", "_law_log_here", "_law_node", "_law_k", "_law_x", "_law_free", "_law_late_here", "_law_turn", "_law_near"] ["_law_box_here", "_law_size_here"] (defScope s__law_log) := ⟨rfl, rfl, rfl, by decide +kernel, rfl, by decide +kernel, by decide +kernel⟩
theorem ok__law_log {P : Program} {w : World} {K : PySem.W.Frag} {mg : Str → Option Value} {base : Heap} {a : AD} (T : Txt P K mg a) (G__law_range : FnA P w K mg base 4 a.f__law_range ["_law_box_here", "_law_size_here"] (sp__law_range a)) (G__law_take : FnA P w K mg base 3 a.f__law_take ["_law_box_here", "_law_many"] (sp__law_take a)) (G__law_pattern : FnA P w K mg base 4 a.f__law_pattern ["_law_box_here", "_law_low", "_law_high"] (sp__law_pattern a)) (G__law_start : FnA P w K mg base 2 a.f__law_start ["_law_size_here"] (sp__law_start a)) (G__law_late : FnA P w K mg base 2 a.f__law_late ["_law_book", "_law_node"] (sp__law_late a)) (G__law_step : FnA P w K mg base 2 a.f__law_step ["_law_book", "_law_operation"] (sp__law_step a)) : FnA P w K mg base 5 a.f__law_log ["_law_box_here", "_law_size_here"] (sp__law_log a) := by
  obtain ⟨fd, F, b⟩ := T.F__law_log
  refine FnA.of F sc__law_log b (fun vs H Q E h => by first | (obtain ⟨rfl, _⟩ := h; rfl) | (obtain ⟨_, rfl, _⟩ := h; rfl) | (obtain ⟨_, _, rfl, _⟩ := h; rfl) | (obtain ⟨_, _, _, rfl, _⟩ := h; rfl) | (obtain ⟨_, _, _, _, rfl, _⟩ := h; rfl) | (obtain ⟨_, _, _, _, _, rfl, _⟩ := h; rfl) | (obtain ⟨_, _, _, _, _, _, rfl, _⟩ := h; rfl) | (obtain ⟨_, _, _, _, _, _, _, rfl, _⟩ := h; rfl) | (obtain ⟨_, _, _, _, _, _, _, _, rfl, _⟩ := h; rfl) | (obtain ⟨_, _, _, _, _, _, _, _, _, rfl, _⟩ := h; rfl) | (obtain ⟨_, _, _, _, _, _, _, _, _, _, rfl, _⟩ := h; rfl) | (obtain ⟨_, _, _, _, _, _, _, _, _, _, _, rfl, _⟩ := h; rfl) | (obtain ⟨_, _, _, _, _, _, _, _, _, _, _, _, rfl, _⟩ := h; rfl) | (obtain ⟨_, _, _, _, _, _, _, _, _, _, _, _, _, rfl, _⟩ := h; rfl) | (obtain ⟨_, _, _, _, _, _, _, _, _, _, _, _, _, _, rfl, _⟩ := h; rfl) | (obtain ⟨_, _, _, _, _, _, _, _, _, _, _, _, _, _, _, rfl, _⟩ := h; rfl) | (obtain ⟨_, _, _, _, _, _, _, _, _, _, _, _, _, _, _, _, rfl, _⟩ := h; rfl) | (obtain ⟨_, _, _, _, _, _, _, _, _, _, _, _, _, _, _, _, _, rfl, _⟩ := h; rfl) | (obtain ⟨_, _, _, _, _, _, _, _, _, _, _, _, _, _, _, _, _, _, rfl, _⟩ := h; rfl) | (obtain ⟨_, _, _, _, _, _, _, _, _, _, _, _, _, _, _, _, _, _, _, rfl, _⟩ := h; rfl) | (obtain ⟨_, _, _, _, _, _, _, _, _, _, _, _, _, _, _, _, _, _, _, _, rfl, _⟩ := h; rfl) | (obtain ⟨_, _, _, _, _, _, _, _, _, _, _, _, _, _, _, _, _, _, _, _, _, rfl, _⟩ := h; rfl) | (obtain ⟨_, _, _, _, _, _, _, _, _, _, _, _, _, _, _, _, _, _, _, _, _, _, rfl, _⟩ := h; rfl) | (obtain ⟨_, _, _, _, _, _, _, _, _, _, _, _, _, _, _, _, _, _, _, _, _, _, _, rfl, _⟩ := h; rfl)) (fun cdv A outer s H vs Q E hr tk pz h => ?_)
  have hu := hr.units
  have hrH := L2H.roomH_of hr
  obtain ⟨b, q, n, rfl, B, n0, n1, k⟩ := h
  refine ⟨_, (pss_cons (ps_set (i := 2) sc__law_log.nd rfl (Or.inl rfl) (pe_callA G__law_range (Room.mono hr (by decide)) T.n__law_range tk (pa_cons (pv 0) (pa_cons (pv 1) pa_nil))))
      (pss_cons (ps_set (i := 3) sc__law_log.nd rfl (Or.inl rfl) (pe_op o_mul pe_int (pe_op o_add (pe_op op_sub (pe_ix ix_seq (pv 2) pe_int (fun _ _ => rfl)) (pe_ix ix_seq (pv 2) pe_int (fun _ _ => rfl))) pe_int)))
      (pss_cons (ps_set (i := 4) sc__law_log.nd rfl (Or.inr rfl) (pe_callB (b_max2 rfl) rfl T.b_max (by decide +kernel) (pa_cons (pe_callA G__law_take (Room.mono hr (by decide)) T.n__law_take tk (pa_cons (pv 0) (pa_cons (pe_op o_add (pv 3) pe_int) pa_nil))) (pa_cons (pe_callA G__law_take (Room.mono hr (by decide)) T.n__law_take tk (pa_cons (pv 0) (pa_cons (pe_op o_add (pv 3) pe_int) pa_nil))) pa_nil))))
      (pss_cons (ps_set (i := 5) sc__law_log.nd rfl (Or.inl rfl) (pe_ix ix_seq (pe_lst (pa_cons pe_int (pa_cons pe_int (pa_cons pe_int (pa_cons pe_int (pa_cons pe_int (pa_cons pe_int (pa_cons pe_int (pa_cons pe_int pa_nil))))))))) (pe_callA G__law_take (Room.mono hr (by decide)) T.n__law_take tk (pa_cons (pv 0) (pa_cons pe_int pa_nil))) (fun _ _ => rfl)))
      (pss_cons (ps_set (i := 6) sc__law_log.nd rfl (Or.inl rfl) (pe_callA G__law_take (Room.mono hr (by decide)) T.n__law_take tk (pa_cons (pv 0) (pa_cons (pe_op o_add (pv 3) pe_int) pa_nil))))
      (pss_cons (ps_set (i := 7) sc__law_log.nd rfl (Or.inl rfl) (pe_callA G__law_pattern (Room.mono hr (by decide)) T.n__law_pattern tk (pa_cons (pv 0) (pa_cons (pe_ix ix_seq (pv 2) pe_int (fun _ _ => rfl)) (pa_cons (pe_ix ix_seq (pv 2) pe_int (fun _ _ => rfl)) pa_nil)))))
      (pss_cons (ps_set (i := 8) sc__law_log.nd rfl (Or.inr rfl) (pe_callA G__law_start (Room.mono hr (by decide)) T.n__law_start tk (pa_cons (pv 1) pa_nil)))
      (pss_cons (ps_set (i := 9) sc__law_log.nd rfl (Or.inl rfl) (pe_lst pa_nil))
      (pss_cons (ps_set (i := 10) sc__law_log.nd rfl (Or.inr rfl) (pe_callA G__law_take (Room.mono hr (by decide)) T.n__law_take tk (pa_cons (pv 0) (pa_cons (pe_op o_add (pv 1) pe_int) pa_nil))))
      (pss_cons (ps_for pz rfl (pi_range1 rfl T.b_range (pa_cons (pv 3) pa_nil)) (pg_name (i := 11) sc__law_log.nd rfl (Or.inr rfl))
      (pss_cons (ps_setLc (i := 13) (own := [("_law_x", 12)]) (g := (gName 12)) rfl sc__law_log.nd rfl rfl (sw_true rfl rfl rfl (by decide +kernel)) (pi_range2 rfl T.b_range (pa_cons (pe_ix ix_seq (pv 2) pe_int (fun _ _ => rfl)) (pa_cons (pe_op o_add (pe_ix ix_seq (pv 2) pe_int (fun _ _ => rfl)) pe_int) pa_nil))) (blkOk_by (own := [("_law_x", 12)]) (N := ["_law_box_here", "_law_size_here", "_law_ends", "_law_many", "_law_steps", "_law_care", "_law_slip", "_law_pattern_here", "_law_book", "_law_log_here", "_law_node", "_law_k", "_law_x", "_law_free", "_law_late_here", "_law_turn", "_law_near"]) (sc := defScope s__law_log) (by decide +kernel)) (fun _ _ _ _ _ => (pg_name (i := 12) sc__law_log.nd rfl (Or.inl rfl))) (fun _ _ _ _ _ => (pts_one (PW.pt (pw_or (pt_cmpA (show OpR _ _ (aEq K) from (o_eq hu)) (pe_ix (show IxR _ (rIx K) from ix_seq) (pe_ix (show IxR _ (rIx K) from ix_seq) (pv 8) pe_int (fun _ _ => rfl)) (pv 12) (fun _ _ => rfl)) pe_int (nomark _)) (pw_or1 (PW.pt (pw_and (pt_cmpA op_lt (pv 11) (pv 4) (nomark _)) (pw_and1 (pt_cmpA (show OpR _ _ (aEq K) from (o_eq hu)) (pe_ix (show IxR _ (rIx K) from ix_seq) (pe_ix (show IxR _ (rIx K) from ix_seq) (pv 8) pe_int (fun _ _ => rfl)) (pv 12) (fun _ _ => rfl)) pe_int (nomark _)))))))))) (fun _ _ _ _ _ => (pv 12)))
      (pss_cons (ps_if (pt_cmpA (o_eq hu) (pe_callB (b_len) rfl T.b_len (by decide +kernel) (pa_cons (pv 13) pa_nil)) pe_int (nomark _)) (pss_one ps_break) pss_nil)
      (pss_cons (ps_set (i := 14) sc__law_log.nd rfl (Or.inr rfl) (pe_lc (own := [("_law_x", 12)]) (g := (gName 12)) rfl sc__law_log.nd (pi_list (pv 13)) (blkOk_by (own := [("_law_x", 12)]) (N := ["_law_box_here", "_law_size_here", "_law_ends", "_law_many", "_law_steps", "_law_care", "_law_slip", "_law_pattern_here", "_law_book", "_law_log_here", "_law_node", "_law_k", "_law_x", "_law_free", "_law_late_here", "_law_turn", "_law_near"]) (sc := defScope s__law_log) (by decide +kernel)) (fun _ _ _ _ _ => (pg_name (i := 12) sc__law_log.nd rfl (Or.inl rfl))) (fun _ _ _ _ _ => (pts_one (pt_cmpA op_gt (pe_callB ((show CallR _ _ (rLen K) from b_len)) rfl T.b_len (by decide +kernel) (pa_cons (pe_callA G__law_late (Room.mono hr (by decide)) T.n__law_late takes0 (pa_cons (pv 8) (pa_cons (pv 12) pa_nil))) pa_nil)) pe_int (nomark _)))) (fun _ _ _ _ _ => (pv 12))))
      (pss_cons (ps_set (i := 15) sc__law_log.nd rfl (Or.inl rfl) (pe_callA G__law_take (Room.mono hr (by decide)) T.n__law_take tk (pa_cons (pv 0) (pa_cons pe_int pa_nil))))
      (pss_cut (ps_if (pt_cutT (PW.pt (pw_and (pt_cmpA op_lt (pv 11) (pv 4) (nomark _)) (pw_and1 (pt_cmpA op_lt (pv 11) (pe_callB (b_len) rfl T.b_len (by decide +kernel) (pa_cons (pv 7) pa_nil)) (nomark _)))))) (pss_one (ps_set (i := 13) sc__law_log.nd rfl (Or.inl rfl) (pe_lst (pa_cons (pe_ix ix_seq (pv 7) (pv 11) (fun _ _ => rfl)) pa_nil)))) (pss_one (ps_if (pt_cutT (PW.pt (pw_and (PW.pt (pw_or (pt_cmpA (o_eq hu) (pv 5) pe_int (nomark _)) (pw_or1 (PW.pt (pw_and (pt_cmpA (o_eq hu) (pv 5) pe_int (nomark _)) (pw_and1 (pt_cmpA op_ge (pv 11) (pv 6) (nomark _)))))))) (pw_and (pt_cmpA op_lt (pv 15) pe_int (nomark _)) (pw_and1 (pt_cmpA op_gt (pe_callB (b_len) rfl T.b_len (by decide +kernel) (pa_cons (pv 14) pa_nil)) pe_int (nomark _))))))) (pss_cons (ps_set (i := 13) sc__law_log.nd rfl (Or.inl rfl) (pv 14))
      (pss_one (ps_set (i := 6) sc__law_log.nd rfl (Or.inl rfl) (pv 3)))) (pss_one (ps_if (pt_cmpA op_gt (pv 5) pe_int (nomark _)) (pss_cut (ps_if (PW.pt (pw_and (pt_cmpA op_gt (pv 5) pe_int (nomark _)) (pw_and1 (pt_cmpA op_lt (pe_callB (b_len) rfl T.b_len (by decide +kernel) (pa_cons (pv 14) pa_nil)) (pe_callB (b_len) rfl T.b_len (by decide +kernel) (pa_cons (pv 13) pa_nil)) (nomark _))))) (pss_one (ps_setLc (i := 13) (own := [("_law_x", 12)]) (g := (gName 12)) rfl sc__law_log.nd rfl rfl (sw_true rfl rfl rfl (by decide +kernel)) (pi_list (pv 13)) (blkOk_by (own := [("_law_x", 12)]) (N := ["_law_box_here", "_law_size_here", "_law_ends", "_law_many", "_law_steps", "_law_care", "_law_slip", "_law_pattern_here", "_law_book", "_law_log_here", "_law_node", "_law_k", "_law_x", "_law_free", "_law_late_here", "_law_turn", "_law_near"]) (sc := defScope s__law_log) (by decide +kernel)) (fun _ _ _ _ _ => (pg_name (i := 12) sc__law_log.nd rfl (Or.inl rfl))) (fun _ _ _ _ _ => (pts_one (pt_cmpA (show OpR _ _ (rIn K true) from op_notIn_seq) (pv 12) (pv 14) (by rfl)))) (fun _ _ _ _ _ => (pv 12)))) pss_nil)
      (pss_cons (ps_setLc (i := 16) (own := [("_law_x", 12)]) (g := (gName 12)) rfl sc__law_log.nd rfl rfl (sw_true rfl rfl rfl (by decide +kernel)) (pi_list (pv 13)) (blkOk_by (own := [("_law_x", 12)]) (N := ["_law_box_here", "_law_size_here", "_law_ends", "_law_many", "_law_steps", "_law_care", "_law_slip", "_law_pattern_here", "_law_book", "_law_log_here", "_law_node", "_law_k", "_law_x", "_law_free", "_law_late_here", "_law_turn", "_law_near"]) (sc := defScope s__law_log) (by decide +kernel)) (fun _ _ _ _ _ => (pg_name (i := 12) sc__law_log.nd rfl (Or.inl rfl))) (fun _ _ _ _ _ => (pts_one (pt_cmpA (show OpR _ _ (aEq K) from (o_eq hu)) (pe_callB (b_abs) rfl T.b_abs (by decide +kernel) (pa_cons (pe_op op_sub (pv 12) (pv 10)) pa_nil)) pe_int (nomark _)))) (fun _ _ _ _ _ => (pv 12)))
      (pss_one (ps_if (PW.pt (pw_and (pt_cmpA op_gt (pv 15) pe_int (nomark _)) (pw_and1 (pt_cmpA op_gt (pe_callB (b_len) rfl T.b_len (by decide +kernel) (pa_cons (pv 16) pa_nil)) pe_int (nomark _))))) (pss_one (ps_set (i := 13) sc__law_log.nd rfl (Or.inl rfl) (pv 16))) pss_nil)))) pss_nil)))))
      (pss_cons (ps_set (i := 10) sc__law_log.nd rfl (Or.inr rfl) (pe_ix ix_seq (pv 13) (pe_callA G__law_take (Room.mono hr (by decide)) T.n__law_take tk (pa_cons (pv 0) (pa_cons (pe_callB (b_len) rfl T.b_len (by decide +kernel) (pa_cons (pv 13) pa_nil)) pa_nil))) (fun _ _ => rfl)))
      (pss_cons (ps_expr (pe_bm PySem.F.plainAttrs_list PySem.F.slot_list_append PySem.F.type_list_append mt_append (pv 9) (pa_cons (pe_ix ix_seq (pe_lst (pa_cons (pe_un un_neg (pv 10)) (pa_cons (pv 10) pa_nil))) (pe_ix ix_seq (pe_ix ix_seq (pv 8) pe_int (fun _ _ => rfl)) (pv 10) (fun _ _ => rfl)) (fun _ _ => rfl)) pa_nil)))
      (pss_one (ps_expr (pe_callA G__law_step (Room.mono hr (by decide)) T.n__law_step tk (pa_cons (pv 8) (pa_cons (pe_ix ix_seq (pv 9) (pv 11) (fun _ _ => rfl)) pa_nil)))))))))))))
      (pss_one (ps_ret (pv 9))))))))))))), ?_⟩
  show (_ : Ends → L2.St → Hp → Prop) _ [some _, some _, none, none, none, none, none, none, none, none, none, none, none, none, none, none, none] _
  try dsimp only [L2H.cxH, cxOf]
  walk_at "w"
  refine ⟨b, q, n, rfl, B, n0, n1, fun e lo hi H1 l1 h1 lh ln he he1 B1 k1 => ?_⟩
  have eB : e ∉ [b, q] := B.off he
  have he1 : H1 e = some (.lst [.int lo, .int hi]) := he1
  have ge1 : ([lo, hi] : List Int).getD (Int.toNat 1) default = hi := rfl
  have ge0 : ([lo, hi] : List Int).getD (Int.toNat 0) default = lo := rfl
  have lhi : lo ≤ hi + 1 := by
    by_cases z : n = 0
    · have := ln z; omega
    · have := lh (by omega); omega
  walk_at "w"
  rw [ge1, ge0]
  refine ⟨b, q, _, rfl, B1, by omega, by omega, fun s1 H2 s10 s11 B2 k2 => ?_⟩
  have he2 := k2 e _ he1 eB
  walk_at "w"
  refine ⟨b, q, _, rfl, B2, by omega, by omega, fun s2 H3 s20 s21 B3 k3 => ?_⟩
  have he3 := k3 e _ he2 eB
  have hst : max s1 s2 ≤ 2 * (hi - lo + 1) := by omega
  have hst0 : 0 ≤ max s1 s2 := by omega
  walk_at "w"
  generalize max s1 s2 = steps at hst hst0 ⊢
  intro L hL
  have kL := Kp.refl.new (ms := []) (o := .lst (([0, 1, 1, 1, 2, 2, 2, 3] : List Int).map V.int)) hL
  have hLa := upd_same (H := H3) (a := L) (o := .lst (([0, 1, 1, 1, 2, 2, 2, 3] : List Int).map V.int))
  have he3a := kL.at0 he3
  have B3a := B3.kp kL
  have LB : L ∉ [b, q] := B3.off hL
  have e8 : (HO.lst [.int 0, .int 1, .int 1, .int 1, .int 2, .int 2, .int 2, .int 3]) = .lst (([0, 1, 1, 1, 2, 2, 2, 3] : List Int).map V.int) := rfl
  rw [e8]
  have kLa := k3.trans0 kL
  generalize upd H3 L (.lst (([0, 1, 1, 1, 2, 2, 2, 3] : List Int).map V.int)) = H3a at hLa he3a B3a kLa ⊢
  walk_at "w"
  refine ⟨b, q, 8, rfl, B3a, by omega, by omega, fun kn H3b kn0 kn1 B3b k3b => ?_⟩
  have hLb := k3b L _ hLa LB
  have he3b := k3b e _ he3a eB
  have hl8 : ([0, 1, 1, 1, 2, 2, 2, 3] : List Int).length = 8 := rfl
  walk_at "w"
  generalize ([0, 1, 1, 1, 2, 2, 2, 3] : List Int).getD kn.toNat default = care
  clear hLb hLa
  refine ⟨b, q, _, rfl, B3b, by omega, by omega, fun slp H4 sl0 sl1 B4 k4 => ?_⟩
  have he4 := k4 e _ he3b eB
  walk_at "w"
  refine ⟨b, q, lo, hi, rfl, B4, by omega, by omega, fun pt pat H5 hpt hpt5 hpat B5 k5 => ?_⟩
  have he5 := k5 e _ he4 eB
  have ptB : pt ∉ [b, q] := B4.off hpt
  have pte : e ≠ pt := ne_of_none he4 hpt
  have k05 := (((k1.trans k2).trans kLa).trans (k3b.trans k4)).trans k5
  clear he1 he2 he3 he3a he3b he4 k1 k2 k3 kL kLa k3b k4 k5 B1 B2 B3 B3a B3b B4 hL
  walk_at "w"
  refine ⟨n, rfl, n0, n1, fun w l r g H6 hw hl hr hg hW k6 => ?_⟩
  have sW : ∀ y ∈ [w, l, r, g], y ∉ [b, q, e, pt] := sep_of (H := H5) (four hw hl hr hg) (fun y hy => by
    simp only [List.mem_cons, List.mem_nil_iff, or_false] at hy
    rcases hy with rfl | rfl | rfl | rfl
    · exact B5.live y (by simp)
    · exact B5.live y (by simp)
    · exact ⟨_, he5⟩
    · exact ⟨_, hpt5⟩)
  have he6 := k6.at0 he5
  have hpt6 := k6.at0 hpt5
  have B6 := B5.kp k6
  have k06 := k05.trans0 k6
  have hl0 := k05.freeB B5 hl
  have hr0 := k05.freeB B5 hr
  have hg0 := k05.freeB B5 hg
  clear k05 k6 he5 hpt5 B5
  walk_at "w"
  intro p hp
  have kp := Kp.refl.new (ms := []) (o := .lst []) hp
  have sP : ∀ y ∈ [w, l, r, g], y ≠ p := fun y hy => by
    obtain ⟨o, eo⟩ := hW.live y hy
    exact ne_of_none eo hp
  have pe : e ≠ p := ne_of_none he6 hp
  have ppt : pt ≠ p := ne_of_none hpt6 hp
  have pB : p ∉ [b, q] := B6.off hp
  have hp0 : H p = none := k06.freeB B6 hp
  have hp7 : upd H6 p (.lst []) p = some (.lst (([] : List Int).map V.int)) := upd_same
  have he7 := kp.at0 he6
  have hpt7 := kp.at0 hpt6
  have B7 := B6.kp kp
  have hW7 := hW.kp0 kp
  have k07 := k06.trans0 kp
  generalize upd H6 p (.lst []) = H7 at hp7 he7 hpt7 B7 hW7 k07 ⊢
  clear B6 hW he6 hpt6 kp
  walk_at "w"
  refine ⟨b, q, _, rfl, B7, by omega, by omega, fun nd H8 nd0 nd1 B8 k8 => ?_⟩
  have hp8 := k8 p _ hp7 pB
  have he8 := k8 e _ he7 eB
  have hpt8 := k8 pt _ hpt7 ptB
  have wB : ∀ y ∈ [w, l, r, g], y ∉ [b, q] := sep_sub sW (by simp)
  have hW8 := hW7.kpS k8 wB
  have k08 := k07.trans k8
  clear B7 hW7 he7 hpt7 hp7 k07 k8
  walk_at "w"
  refine w_rng1 (n := 2 * (hi - lo + 1)) (by omega) (by omega) (fun i σ' H' => ∃ (us st : List Int) (nd slp : Int) (z10 z11 z12 z13 z14 z15 : Option V), σ' = [some (.ref b), some (.int n), some (.ref e), some (.int (2 * (hi - lo + 1))), some (.int steps), some (.int care), some (.int slp), some (.ref pt), some (.ref w), some (.ref p), some (.int nd), z10, z11, z12, z13, z14, z15] ∧ Kp [b, q] H H' ∧ Bx H' b q ∧ Wl H' w l r g n (runS (s0 n) us) st ∧ StOk n us st ∧ Onc n us ∧ us.length = i ∧ (∀ o ∈ us, lo ≤ (o.natAbs : Int) ∧ (o.natAbs : Int) ≤ hi) ∧ (pat ≠ [] → i ≤ 3 → (i : Int) ≤ steps → us = patUs pat i) ∧ H' p = some (.lst (us.map V.int)) ∧ H' e = some (.lst [.int lo, .int hi]) ∧ H' pt = some (.lst (pat.map V.int))) ⟨[], _, nd, slp, _, _, _, _, _, _, rfl, k08, B8, hW8, StOk.nil n0, ⟨trivial, fun j o hj => by simp at hj⟩, rfl, fun o ho => absurd ho List.not_mem_nil, fun _ _ _ => by rcases hpat with z | ⟨x, y, z, _⟩ <;> (rw [z]; rfl), hp8, he8, hpt8⟩ ?_ ?_
  · clear B8 hW8 hp8 he8 hpt8 k08
    rintro i σ' H1 hi' ⟨us, st, nd, slp, z10, z11, z12, z13, z14, z15, rfl, k1, B1, hW1, hst1, hon, hul, hin, hpu, hp1, he1, hpt1⟩
    have hm : 2 * (hi - lo + 1) > i := by omega
    obtain ⟨hw1, hl1, hr1, hg1, _⟩ := id hW1
    have Wi : WFs n (runS (s0 n) us) := by
      have := runS_wf (wfs0 n0 n1) us.length (Nat.le_refl _) ((ok_lgl n0 n1).mpr hon.1)
      rwa [List.take_length] at this
    have hsl := hst1.len
    walk_at "w"
    refine w_lcR2 (f' := V.int) (fun j : Nat => if st.getD (lo + (j : Int)).toNat default = 1 ∨ ((i : Int) < steps ∧ st.getD (lo + (j : Int)).toNat default = 0) then some (lo + (j : Int)) else none) (lo := lo) (n := hi + 1) (by omega) (by omega) (by omega) (by omega) (by rw [sizeLine_eq]; omega) ?_ ?_
    · intro D j acc H' hD hj hk hA hlen
      have hw2 := hk.at0 hw1
      have hg2 := hk.at0 hg1
      walk_at "w"
      refine ⟨rfl, ?_⟩
      walk_at "w"
      refine w_ite (fun c => ?_) (fun c => ?_)
      · walk_at "w"
        exact w_keep hk hA hlen hD (by rw [if_pos (.inl c)])
      · walk_at "w"
        refine w_ite (fun c2 => ?_) (fun c2 => ?_)
        · walk_at "w"
          refine w_ite (fun c3 => ?_) (fun c3 => ?_)
          · walk_at "w"
            exact w_keep hk hA hlen hD (by rw [if_pos (.inr ⟨c2, c3⟩)])
          · walk_at "w"
            exact w_drop hk hA (by rw [if_neg (fun z => z.elim c fun y => c3 y.2)])
        · walk_at "w"
          exact w_drop hk hA (by rw [if_neg (fun z => z.elim c fun y => c2 y.1)])
    intro fr H2 hfr k2 hfr2
    have hfs : ∀ x ∈ (List.range (hi + 1 - lo).toNat).filterMap (fun j : Nat => if st.getD (lo + (j : Int)).toNat default = 1 ∨ ((i : Int) < steps ∧ st.getD (lo + (j : Int)).toNat default = 0) then some (lo + (j : Int)) else none), lo ≤ x ∧ x ≤ hi ∧ st.getD x.toNat default < 2 := by
      intro x hx
      obtain ⟨j, hj, ej⟩ := List.mem_filterMap.mp hx
      have hj := List.mem_range.mp hj
      split at ej
      · rename_i c
        cases ej
        exact ⟨by omega, by omega, by omega⟩
      · cases ej
    have hfl' : ((List.range (hi + 1 - lo).toNat).filterMap (fun j : Nat => if st.getD (lo + (j : Int)).toNat default = 1 ∨ ((i : Int) < steps ∧ st.getD (lo + (j : Int)).toNat default = 0) then some (lo + (j : Int)) else none)).length ≤ 60 := by
      refine Nat.le_trans (List.length_filterMap_le _ _) ?_
      rw [List.length_range]; omega
    have hcmp : (List.range (hi + 1 - lo).toNat).filterMap (fun j : Nat => if st.getD (lo + (j : Int)).toNat default = 1 ∨ ((i : Int) < steps ∧ st.getD (lo + (j : Int)).toNat default = 0) then some (lo + (j : Int)) else none) = [] → Cmp n us := fun z v v1 v2 hv => by
      by_cases hin2 : lo ≤ (v : Int) ∧ (v : Int) ≤ hi
      · have := List.filterMap_eq_nil_iff.mp z (v - lo.toNat) (List.mem_range.mpr (by omega))
        rw [if_pos (.inl (by rw [show (lo + ((v - lo.toNat : Nat) : Int)).toNat = v by omega, hst1.at_ v v1 v2, hv]; rfl))] at this
        cases this
      · rw [cnt_out (fun o ho y => hin2 (by have := hin o ho; omega))] at hv
        omega
    generalize (List.range (hi + 1 - lo).toNat).filterMap (fun j : Nat => if st.getD (lo + (j : Int)).toNat default = 1 ∨ ((i : Int) < steps ∧ st.getD (lo + (j : Int)).toNat default = 0) then some (lo + (j : Int)) else none) = fs at hfr2 hfs hfl' hcmp
    walk_at "w"
    refine w_ite (fun cb => ?_) (fun cb => ?_)
    · walk_at "w"
      exact k p us H2 hp0 (k2.at0 hp1) hon (hcmp (List.length_eq_zero_iff.mp (by omega))) (by omega) (B1.kp k2) (k1.trans0 k2)
    have hfn : fs ≠ [] := fun z => cb (by rw [z]; rfl)
    have hW2 := hW1.kp0 k2
    have frB : fr ∉ [b, q] := B1.off hfr
    walk_at "w"
    refine w_lcM (us := fs) (f := V.int) (f' := V.int) (fun x => if 0 < (lateF (runS (s0 n) us) (stB st) x).length then some x else none) hfr2 (by rw [sizeLine_eq]; omega) ?_ ?_
    · intro D j x acc H' hD hx hk hA hlen
      have hxx := hfs x (List.mem_of_getElem? hx)
      walk_at "w"
      refine ⟨rfl, ?_⟩
      walk_at "w"
      refine ⟨w, l, r, g, n, x, _, st, rfl, hW2.kp0 hk, Wi, hsl, by omega, by omega, fun t H3 ht k3 ht3 => ?_⟩
      have hk3 := hk.trans0 k3
      have hA3 := k3.at0 hA
      walk_at "w"
      refine w_ite (fun c => ?_) (fun c => ?_)
      · walk_at "w"
        exact w_keep hk3 hA3 hlen hD (by rw [if_pos (by omega)])
      · walk_at "w"
        exact w_drop hk3 hA3 (by rw [if_neg (by omega)])
    intro lt H3 hlt k3 hlt3
    have hls : ∀ x ∈ fs.filterMap (fun x => if 0 < (lateF (runS (s0 n) us) (stB st) x).length then some x else none), x ∈ fs := by
      intro x hx
      obtain ⟨y, hy, ey⟩ := List.mem_filterMap.mp hx
      split at ey
      · cases ey; exact hy
      · cases ey
    have hll : (fs.filterMap (fun x => if 0 < (lateF (runS (s0 n) us) (stB st) x).length then some x else none)).length ≤ 60 := Nat.le_trans (List.length_filterMap_le _ _) hfl'
    have hlx : (fs.filterMap (fun x => if 0 < (lateF (runS (s0 n) us) (stB st) x).length then some x else none)).length < fs.length → ∃ x, x ∈ fs ∧ x ∉ fs.filterMap (fun x => if 0 < (lateF (runS (s0 n) us) (stB st) x).length then some x else none) := fun z => by
      refine Classical.byContradiction fun y => ?_
      have hall : ∀ x ∈ fs, 0 < (lateF (runS (s0 n) us) (stB st) x).length := fun x hx => by
        refine Classical.byContradiction fun w => y ⟨x, hx, fun m => ?_⟩
        obtain ⟨u, hu, eu⟩ := List.mem_filterMap.mp m
        split at eu
        · rename_i c
          cases eu
          exact w c
        · cases eu
      rw [fm_all hall] at z
      omega
    generalize fs.filterMap (fun x => if 0 < (lateF (runS (s0 n) us) (stB st) x).length then some x else none) = ls at hlt3 hls hll hlx
    have hfr3 := k3.at0 hfr2
    have ltB : lt ∉ [b, q] := (B1.kp k2).off hlt
    have k13 := k2.trans0 k3
    have hp3 := k13.at0 hp1
    have he3 := k13.at0 he1
    have hpt3 := k13.at0 hpt1
    have hW3 := hW1.kp0 k13
    have B3 := B1.kp k13
    have k03 := k1.trans0 k13
    clear hfr hlt hfr2 hW2 hW1 hw1 hl1 hr1 hg1 B1 hp1 he1 hpt1 k1 k2 k3 k13
    walk_at "w"
    refine ⟨b, q, 4, rfl, B3, by omega, by omega, fun tn H5 tn0 tn1 B5 k5 => ?_⟩
    have hfr5 := k5 fr _ hfr3 frB
    have hlt5 := k5 lt _ hlt3 ltB
    have hp5 := k5 p _ hp3 pB
    have he5 := k5 e _ he3 eB
    have hpt5 := k5 pt _ hpt3 ptB
    have hW5 := hW3.kpS k5 wB
    have k05 := k03.trans k5
    clear hfr3 hlt3 hp3 he3 hpt3 hW3 B3 k03 k5
    have hpl : pat = [] ∨ pat.length = 3 := by
      rcases hpat with z | ⟨x, y, z, _⟩
      · exact .inl z
      · exact .inr (by rw [z]; rfl)
    walk_at "w"
    refine s_cut (fun σ' H' => ∃ (fl : Addr) (gs : List Int) (slp' : Int) (z12 z16 : Option V), σ' = [some (.ref b), some (.int n), some (.ref e), some (.int (2 * (hi - lo + 1))), some (.int steps), some (.int care), some (.int slp'), some (.ref pt), some (.ref w), some (.ref p), some (.int nd), some (.int (i : Int)), z12, some (.ref fl), some (.ref lt), some (.int tn), z16] ∧ Kp [] H5 H' ∧ H' fl = some (.lst (gs.map V.int)) ∧ fl ∉ [b, q] ∧ gs ≠ [] ∧ gs.length ≤ 60 ∧ (∀ x ∈ gs, lo ≤ x ∧ x ≤ hi ∧ st.getD x.toNat default < 2) ∧ ((i : Int) < steps → i < pat.length → gs = [pat.getD i default])) ?_ ?_
    · walk_at "w"
      refine s_cutT ((i : Int) < steps ∧ i < pat.length) ?_ ?_
      · walk_at "w"
        refine w_ite (fun c1 => ?_) (fun c1 => ?_)
        · walk_at "w"
          exact ⟨rfl, by walk_at "dcd"⟩
        · walk_at "w"
          exact ⟨rfl, by walk_at "dcd"⟩
      refine w_ite (fun c1 => ?_) (fun c1 => ?_)
      · have hps := pat_step hpat l1 (i := i) c1.2
        have hus : us = patUs pat i := hpu (fun z => by rw [z] at c1; simp at c1) (by omega) (by omega)
        walk_at "w"
        intro fl hfl
        rw [Int.toNat_natCast]
        walk_at "w"
        refine ⟨fl, [pat.getD i default], _, _, _, rfl, Kp.refl.new hfl, upd_same, B5.off hfl, by simp, by simp, fun x hx => ?_, fun _ _ => rfl⟩
        rw [List.mem_singleton.mp hx]
        refine ⟨hps.1, hps.2.1, ?_⟩
        rw [hst1.at_ _ (by omega) (by omega), hus]
        have := hps.2.2.1
        omega
      have no : (i : Int) < steps → i < pat.length → False := fun y z => c1 ⟨y, z⟩
      clear c1
      walk_at "w"
      refine s_cutT ((care = 1 ∨ (care = 2 ∧ slp ≤ i)) ∧ tn < 3 ∧ 0 < ls.length) ?_ ?_
      · walk_at "w"
        repeat' first | (refine w_ite (fun _ => ?_) (fun _ => ?_) <;> walk_at "w") | exact ⟨rfl, by walk_at "dcd"⟩
      refine w_ite (fun c2 => ?_) (fun c2 => ?_)
      · walk_at "w"
        exact ⟨lt, ls, _, _, _, rfl, Kp.refl, hlt5, ltB, List.length_pos_iff.mp c2.2.2, hll, fun x hx => hfs x (hls x hx), fun y z => (no y z).elim⟩
      clear c2
      walk_at "w"
      refine w_ite (fun c3 => ?_) (fun c3 => ?_)
      · walk_at "w"
        refine s_cut (fun σ' H' => ∃ (fl : Addr) (gs : List Int) (z12 z16 : Option V), σ' = [some (V.ref b), some (.int n), some (.ref e), some (.int (2 * (hi - lo + 1))), some (.int steps), some (.int care), some (.int slp), some (.ref pt), some (.ref w), some (.ref p), some (.int nd), some (.int (i : Int)), z12, some (.ref fl), some (.ref lt), some (.int tn), z16] ∧ Kp [] H5 H' ∧ H' fl = some (.lst (gs.map V.int)) ∧ fl ∉ [b, q] ∧ gs ≠ [] ∧ gs.length ≤ 60 ∧ (∀ x ∈ gs, x ∈ fs)) ?_ ?_
        · walk_at "w"
          refine w_ite (fun c4 => ?_) (fun c4 => ?_)
          · walk_at "w"
            refine w_ite (fun c5 => ?_) (fun c5 => ?_)
            · walk_at "w"
              refine w_lcM (us := fs) (f := V.int) (f' := V.int) (fun x => if x ∉ ls then some x else none) hfr5 (by rw [sizeLine_eq]; omega) ?_ ?_
              · intro D j x acc H' hD hx hk hA hlen
                have hlt6 := hk.at0 hlt5
                walk_at "w"
                refine ⟨rfl, ?_⟩
                walk_at "w"
                refine w_iteN (fun c => ?_) (fun c => ?_)
                · walk_at "w"
                  exact w_keep hk hA hlen hD (by rw [if_pos c])
                · walk_at "w"
                  exact w_drop hk hA (by rw [if_neg (fun z => z c)])
              intro fl H6 hfl k6 hfl6
              obtain ⟨x, x1, x2⟩ := hlx (by omega)
              walk_at "w"
              exact ⟨fl, _, _, _, rfl, k6, hfl6, B5.off hfl, List.ne_nil_of_mem (List.mem_filterMap.mpr ⟨x, x1, if_pos x2⟩), Nat.le_trans (List.length_filterMap_le _ _) hfl', fun y hy => by
                obtain ⟨u, hu, eu⟩ := List.mem_filterMap.mp hy
                split at eu
                · cases eu; exact hu
                · cases eu⟩
            · walk_at "w"
              exact ⟨fr, fs, _, _, rfl, Kp.refl, hfr5, frB, hfn, hfl', fun x hx => hx⟩
          · walk_at "w"
            exact ⟨fr, fs, _, _, rfl, Kp.refl, hfr5, frB, hfn, hfl', fun x hx => hx⟩
        rintro σ' H6 ⟨fl, gs, z12, z16, rfl, k6, hfl6, flB, hgn, hgl, hgs⟩
        walk_at "w"
        refine w_lcM (us := gs) (f := V.int) (f' := V.int) (fun x => if ((x - nd).natAbs : Int) = 1 then some x else none) hfl6 (by rw [sizeLine_eq]; omega) ?_ ?_
        · intro D j x acc H' hD hx hk hA hlen
          walk_at "w"
          refine ⟨rfl, ?_⟩
          walk_at "w"
          refine w_ite (fun c => ?_) (fun c => ?_)
          · walk_at "w"
            exact w_keep hk hA hlen hD (by rw [if_pos c])
          · walk_at "w"
            exact w_drop hk hA (by rw [if_neg c])
        intro nr H7 hnr k7 hnr7
        have hns : ∀ x ∈ gs.filterMap (fun x => if ((x - nd).natAbs : Int) = 1 then some x else none), x ∈ gs := by
          intro x hx
          obtain ⟨y, hy, ey⟩ := List.mem_filterMap.mp hx
          split at ey
          · cases ey; exact hy
          · cases ey
        have hnl : (gs.filterMap (fun x => if ((x - nd).natAbs : Int) = 1 then some x else none)).length ≤ 60 := Nat.le_trans (List.length_filterMap_le _ _) hgl
        generalize gs.filterMap (fun x => if ((x - nd).natAbs : Int) = 1 then some x else none) = ns at hnr7 hns hnl
        have k67 := k6.trans0 k7
        have hfl7 := k7.at0 hfl6
        have nrB : nr ∉ [b, q] := (B5.kp k6).off hnr
        have keep : ∃ (fl' : Addr) (gs : List Int) (slp' : Int) (z12' z16' : Option V), [some (V.ref b), some (.int n), some (.ref e), some (.int (2 * (hi - lo + 1))), some (.int steps), some (.int care), some (.int slp), some (.ref pt), some (.ref w), some (.ref p), some (.int nd), some (.int (i : Int)), z12, some (.ref fl), some (.ref lt), some (.int tn), some (.ref nr)] = [some (V.ref b), some (.int n), some (.ref e), some (.int (2 * (hi - lo + 1))), some (.int steps), some (.int care), some (.int slp'), some (.ref pt), some (.ref w), some (.ref p), some (.int nd), some (.int (i : Int)), z12', some (.ref fl'), some (.ref lt), some (.int tn), z16'] ∧ Kp [] H5 H7 ∧ H7 fl' = some (.lst (gs.map V.int)) ∧ fl' ∉ [b, q] ∧ gs ≠ [] ∧ gs.length ≤ 60 ∧ (∀ x ∈ gs, lo ≤ x ∧ x ≤ hi ∧ st.getD x.toNat default < 2) ∧ ((i : Int) < steps → i < pat.length → gs = [pat.getD i default]) :=
          ⟨fl, gs, _, _, _, rfl, k67, hfl7, flB, hgn, hgl, fun x hx => hfs x (hgs x hx), fun y z => (no y z).elim⟩
        walk_at "w"
        refine w_ite (fun c6 => ?_) (fun c6 => ?_)
        · walk_at "w"
          refine w_ite (fun c7 => ?_) (fun c7 => ?_)
          · walk_at "w"
            exact ⟨nr, ns, _, _, _, rfl, k67, hnr7, nrB, List.length_pos_iff.mp (by omega), hnl, fun x hx => hfs x (hgs x (hns x hx)), fun y z => (no y z).elim⟩
          · walk_at "w"
            exact keep
        · walk_at "w"
          exact keep
      · walk_at "w"
        exact ⟨fr, fs, _, _, _, rfl, Kp.refl, hfr5, frB, hfn, hfl', hfs, fun y z => (no y z).elim⟩
    clear hfr5 hlt5 hfs hls hfn hfl' hll frB ltB hlx
    rintro σ' H6 ⟨fl, gs, slp', z12, z16, rfl, k6, hfl, flB, hgn, hgl, hgs, hgp⟩
    have hgl0 := List.length_pos_iff.mpr hgn
    have hp6 := k6.at0 hp5
    have he6 := k6.at0 he5
    have hpt6 := k6.at0 hpt5
    have hW6 := hW5.kp0 k6
    have B6 := B5.kp k6
    have k06 := k05.trans0 k6
    clear hp5 he5 hpt5 hW5 B5 k05 k6
    walk_at "w"
    refine ⟨b, q, _, rfl, B6, by omega, by omega, fun rr H7 r0 r1 B7 k7 => ?_⟩
    have hfl7 := k7 fl _ hfl flB
    have hp7 := k7 p _ hp6 pB
    have he7 := k7 e _ he6 eB
    have hpt7 := k7 pt _ hpt6 ptB
    have hW7 := hW6.kpS k7 wB
    have k07 := k06.trans k7
    clear hfl hp6 he6 hpt6 hW6 B6 k06 k7
    have hmem : gs.getD rr.toNat default ∈ gs := by
      rw [List.getD_eq_getElem?_getD, List.getElem?_eq_getElem (show rr.toNat < gs.length by omega)]
      exact List.getElem_mem _
    obtain ⟨v1, v2, v3⟩ := hgs _ hmem
    have hpv : (i : Int) < steps → i < pat.length → gs.getD rr.toNat default = pat.getD i default := fun y z => by
      have e1 := hgp y z
      rw [e1] at hmem ⊢
      exact List.mem_singleton.mp hmem
    walk_at "w"
    generalize gs.getD rr.toNat default = v at v1 v2 v3 hpv ⊢
    intro t ht
    have hsv := hst1.at_ v.toNat (by omega) (by omega)
    have kt := Kp.refl.new (ms := []) (o := .lst [.int (-v), .int v]) ht
    have ht8 : upd H7 t (.lst [.int (-v), .int v]) t = some (.lst (([-v, v] : List Int).map V.int)) := upd_same
    have hp8 := kt.at0 hp7
    have he8 := kt.at0 he7
    have hpt8 := kt.at0 hpt7
    have hW8 := hW7.kp0 kt
    have B8 := B7.kp kt
    have k08 := k07.trans0 kt
    generalize upd H7 t (.lst [.int (-v), .int v]) = H8 at ht8 hp8 he8 hpt8 hW8 B8 k08 ⊢
    clear hp7 he7 hpt7 hW7 B7 k07 kt hfl7
    obtain ⟨hw8, _, _, hg8, _⟩ := id hW8
    have hod : ([-v, v] : List Int).getD (st.getD v.toNat default).toNat default = deedF us v := by
      unfold deedF
      by_cases c : cntN us v.toNat = 0
      · rw [if_pos c, hsv, c]; rfl
      · rw [if_neg c, hsv, show cntN us v.toNat = 1 by omega]; rfl
    have hs0 : 0 ≤ st.getD v.toNat default := by omega
    walk_at "w"
    rw [hod]
    have hab : (deedF us v).natAbs = v.toNat := by unfold deedF; split <;> omega
    have hop : IsOp n (deedF us v) := by unfold IsOp; rw [hab]; omega
    have hpar : cntN us (deedF us v).natAbs % 2 = 0 ↔ deedF us v < 0 := by
      rw [hab]
      unfold deedF
      split <;> omega
    have hlt : cntN us (deedF us v).natAbs < 2 := by rw [hab]; omega
    have hmore := once_more hon.1 hon.2 hop hpar hlt
    have hstep := hst1.step n0 hop hpar hlt
    have hpu' : pat ≠ [] → i + 1 ≤ 3 → ((i + 1 : Nat) : Int) ≤ steps → us ++ [deedF us v] = patUs pat (i + 1) := fun z1 z2 z3 => by
      have hp3 : pat.length = 3 := by
        rcases hpl with z | z
        · exact absurd z z1
        · exact z
      have hps := pat_step hpat l1 (i := i) (by omega)
      have hus := hpu z1 (by omega) (by omega)
      rw [hps.2.2.2.1, hus, hpv (by omega) (by omega)]
    have hin' : ∀ o ∈ us ++ [deedF us v], lo ≤ (o.natAbs : Int) ∧ (o.natAbs : Int) ≤ hi := fun o ho => by
      rcases List.mem_append.mp ho with z | z
      · exact hin o z
      · rw [List.mem_singleton.mp z, hab]; omega
    generalize deedF us v = dd at hab hop hpar hlt hmore hstep hpu' hin' ⊢
    have hgk : (us ++ [dd]).getD i default = dd := by
      rw [List.getD_eq_getElem?_getD, List.getElem?_append_right (by omega), show i - us.length = 0 by omega]; rfl
    have hW9 : Wl (upd H8 p (.lst ((us ++ [dd]).map V.int))) w l r g n (runS (s0 n) us) st := hW8.kpS (Kp.refl.mut (ms := [p]) (by simp)) (fun y hy z => sP y hy (List.mem_singleton.mp z))
    have hp9 : upd H8 p (.lst ((us ++ [dd]).map V.int)) p = some (.lst ((us ++ [dd]).map V.int)) := upd_same
    have he9 : upd H8 p (.lst ((us ++ [dd]).map V.int)) e = _ := upd_get pe he8
    have hpt9 : upd H8 p (.lst ((us ++ [dd]).map V.int)) pt = _ := upd_get ppt hpt8
    have B9 : Bx (upd H8 p (.lst ((us ++ [dd]).map V.int))) b q := B8.kpm (Kp.refl.mut (ms := [p]) (by simp)) (fun y hy z => pB (by rw [← List.mem_singleton.mp z]; exact hy))
    have k09 : Kp [b, q] H (upd H8 p (.lst ((us ++ [dd]).map V.int))) := k08.own hp0
    generalize upd H8 p (.lst ((us ++ [dd]).map V.int)) = H9 at hW9 hp9 he9 hpt9 B9 k09 ⊢
    clear hW8 hp8 he8 hpt8 B8 k08 ht8 hw8 hg8
    walk_at "w"
    rw [Int.toNat_natCast, hgk]
    refine ⟨w, l, r, g, n, dd, _, st, rfl, hW9, Wi, hsl, hop, fun H10 hW10 k10 => ?_⟩
    have sWl : ∀ {y : Addr}, y ∈ [b, q, e, pt] → y ∉ [l, r, g] := fun {y} h1 h2 => sW y (by simp only [List.mem_cons, List.mem_nil_iff, or_false] at h2 ⊢; exact .inr h2) h1
    have hp10 := k10 p _ hp9 (fun z => sP p (by simp only [List.mem_cons, List.mem_nil_iff, or_false] at z ⊢; exact .inr z) rfl)
    have he10 := k10 e _ he9 (sWl (by simp))
    have hpt10 := k10 pt _ hpt9 (sWl (by simp))
    have B10 := B9.kpm k10 (fun y hy => sWl (by simp only [List.mem_cons, List.mem_nil_iff, or_false] at hy ⊢; rcases hy with z | z <;> simp [z]))
    have k010 := kp_newM k09 hl0 hr0 hg0 k10
    rw [← runS_snoc] at hW10
    walk_at "w"
    exact ⟨us ++ [dd], stU st dd, v, slp', _, _, _, _, _, _, rfl, k010, B10, hW10, hstep, hmore, by rw [List.length_append, hul]; rfl, hin', hpu', hp10, he10, hpt10⟩
  · rintro σ' H1 ⟨us, st, nd, slp, z10, z11, z12, z13, z14, z15, rfl, k1, B1, hW1, hst1, hon, hul, hin, hpu, hp1, he1, hpt1⟩
    have hcmp : Cmp n us := fun v v1 v2 hv => by
      by_cases hin2 : lo ≤ (v : Int) ∧ (v : Int) ≤ hi
      · have := full_all (lo := lo.toNat) (m := (hi + 1 - lo).toNat) (us := us) (fun o ho => by have := hin o ho; omega) (by omega) (fun j hj => once_cnt _ (by omega) us hon.1 hon.2) (v - lo.toNat) (by omega)
        rw [show lo.toNat + (v - lo.toNat) = v by omega] at this
        omega
      · rw [cnt_out (fun o ho y => hin2 (by have := hin o ho; omega))] at hv
        omega
    walk_at "w"
    exact k p us H1 hp0 hp1 hon hcmp (by omega) B1 k1
/-! ### the links led along -/
theorem Lv_mono {n : Int} {g : Nat} {us vs : List Int} (h : us <+: vs) (z : Lv n g us) : Lv n g vs := by
  obtain ⟨pre, o, hp, hm⟩ := z
  exact ⟨pre, o, hp.trans h, hm⟩
theorem Lv_take {n : Int} {us : List Int} {k : Nat} {o : Int} (hu : us[k]? = some o) (g : Nat) : Lv n g (us.take (k + 1)) ↔ Lv n g (us.take k) ∨ (g : Int) ∈ lateF (runS (s0 n) (us.take k)) (bkF us k) (o.natAbs : Int) := by
  rw [take_snoc hu]
  have e : bkF (us.take k) (us.take k).length = bkF us k := by
    funext u
    unfold bkF
    rw [List.take_length]
  rw [← e]
  exact ever_snoc
def sp__law_first_late (a : AD) : Sp := fun vs H Q _ => ∃ (p : Addr) (n : Int) (us : List Int), vs = [.int n, .ref p] ∧ 0 ≤ n ∧ n ≤ 60 ∧ H p = some (.lst (us.map V.int)) ∧ Onc n us ∧ us.length ≤ 1000 ∧ ∀ (K : Nat) (H' : Hp), Kp [] H H' → K ≤ us.length → (∀ g, ¬Lv n g (us.take K)) → Q (.int (K : Int)) H'
theorem sc__law_first_late : FnScope ["_law_size_here", "_law_log_here", "_law_book", "_law_k"] ["_law_size_here", "_law_log_here"] (defScope s__law_first_late) := ⟨rfl, rfl, rfl, by decide +kernel, rfl, by decide +kernel, by decide +kernel⟩
theorem ok__law_first_late {P : Program} {w : World} {K : PySem.W.Frag} {mg : Str → Option Value} {base : Heap} {a : AD} (T : Txt P K mg a) (G__law_start : FnA P w K mg base 2 a.f__law_start ["_law_size_here"] (sp__law_start a)) (G__law_late : FnA P w K mg base 2 a.f__law_late ["_law_book", "_law_node"] (sp__law_late a)) (G__law_step : FnA P w K mg base 2 a.f__law_step ["_law_book", "_law_operation"] (sp__law_step a)) : FnA P w K mg base 3 a.f__law_first_late ["_law_size_here", "_law_log_here"] (sp__law_first_late a) := by
  obtain ⟨fd, F, b⟩ := T.F__law_first_late
  refine FnA.of F sc__law_first_late b (fun vs H Q E h => by first | (obtain ⟨rfl, _⟩ := h; rfl) | (obtain ⟨_, rfl, _⟩ := h; rfl) | (obtain ⟨_, _, rfl, _⟩ := h; rfl) | (obtain ⟨_, _, _, rfl, _⟩ := h; rfl) | (obtain ⟨_, _, _, _, rfl, _⟩ := h; rfl) | (obtain ⟨_, _, _, _, _, rfl, _⟩ := h; rfl) | (obtain ⟨_, _, _, _, _, _, rfl, _⟩ := h; rfl) | (obtain ⟨_, _, _, _, _, _, _, rfl, _⟩ := h; rfl) | (obtain ⟨_, _, _, _, _, _, _, _, rfl, _⟩ := h; rfl) | (obtain ⟨_, _, _, _, _, _, _, _, _, rfl, _⟩ := h; rfl) | (obtain ⟨_, _, _, _, _, _, _, _, _, _, rfl, _⟩ := h; rfl) | (obtain ⟨_, _, _, _, _, _, _, _, _, _, _, rfl, _⟩ := h; rfl) | (obtain ⟨_, _, _, _, _, _, _, _, _, _, _, _, rfl, _⟩ := h; rfl) | (obtain ⟨_, _, _, _, _, _, _, _, _, _, _, _, _, rfl, _⟩ := h; rfl) | (obtain ⟨_, _, _, _, _, _, _, _, _, _, _, _, _, _, rfl, _⟩ := h; rfl) | (obtain ⟨_, _, _, _, _, _, _, _, _, _, _, _, _, _, _, rfl, _⟩ := h; rfl) | (obtain ⟨_, _, _, _, _, _, _, _, _, _, _, _, _, _, _, _, rfl, _⟩ := h; rfl) | (obtain ⟨_, _, _, _, _, _, _, _, _, _, _, _, _, _, _, _, _, rfl, _⟩ := h; rfl) | (obtain ⟨_, _, _, _, _, _, _, _, _, _, _, _, _, _, _, _, _, _, rfl, _⟩ := h; rfl) | (obtain ⟨_, _, _, _, _, _, _, _, _, _, _, _, _, _, _, _, _, _, _, rfl, _⟩ := h; rfl) | (obtain ⟨_, _, _, _, _, _, _, _, _, _, _, _, _, _, _, _, _, _, _, _, rfl, _⟩ := h; rfl) | (obtain ⟨_, _, _, _, _, _, _, _, _, _, _, _, _, _, _, _, _, _, _, _, _, rfl, _⟩ := h; rfl) | (obtain ⟨_, _, _, _, _, _, _, _, _, _, _, _, _, _, _, _, _, _, _, _, _, _, rfl, _⟩ := h; rfl) | (obtain ⟨_, _, _, _, _, _, _, _, _, _, _, _, _, _, _, _, _, _, _, _, _, _, _, rfl, _⟩ := h; rfl)) (fun cdv A outer s H vs Q E hr tk pz h => ?_)
  have hu := hr.units
  have hrH := L2H.roomH_of hr
  obtain ⟨p, n, us, rfl, n0, n1, hp, hon, hul, k⟩ := h
  refine ⟨_, (pss_cons (ps_set (i := 2) sc__law_first_late.nd rfl (Or.inl rfl) (pe_callA G__law_start (Room.mono hr (by decide)) T.n__law_start tk (pa_cons (pv 0) pa_nil)))
      (pss_cons (ps_for pz rfl (pi_range1 rfl T.b_range (pa_cons (pe_callB (b_len) rfl T.b_len (by decide +kernel) (pa_cons (pv 1) pa_nil)) pa_nil)) (pg_name (i := 3) sc__law_first_late.nd rfl (Or.inl rfl))
      (pss_cons (ps_if (pt_cmpA op_gt (pe_callB (b_len) rfl T.b_len (by decide +kernel) (pa_cons (pe_callA G__law_late (Room.mono hr (by decide)) T.n__law_late tk (pa_cons (pv 2) (pa_cons (pe_callB (b_abs) rfl T.b_abs (by decide +kernel) (pa_cons (pe_ix ix_seq (pv 1) (pv 3) (fun _ _ => rfl)) pa_nil)) pa_nil))) pa_nil)) pe_int (nomark _)) (pss_one (ps_ret (pv 3))) pss_nil)
      (pss_one (ps_expr (pe_callA G__law_step (Room.mono hr (by decide)) T.n__law_step tk (pa_cons (pv 2) (pa_cons (pe_ix ix_seq (pv 1) (pv 3) (fun _ _ => rfl)) pa_nil)))))))
      (pss_one (ps_ret (pe_callB (b_len) rfl T.b_len (by decide +kernel) (pa_cons (pv 1) pa_nil)))))), ?_⟩
  show (_ : Ends → L2.St → Hp → Prop) _ [some _, some _, none, none] _
  try dsimp only [L2H.cxH, cxOf]
  walk_at "w"
  refine ⟨n, rfl, n0, n1, fun w l r g H1 hw hl hr' hg hW k1 => ?_⟩
  have hp1 := k1.at0 hp
  have sP : ∀ y ∈ [w, l, r, g], y ≠ p := fun y hy z => by
    have : H y = none := four hw hl hr' hg y hy
    rw [z, hp] at this; cases this
  walk_at "w"
  refine w_rng1 (n := (us.length : Int)) (by omega) (by omega) (fun i σ' H' => ∃ (st : List Int) (z : Option V), σ' = [some (.int n), some (.ref p), some (.ref w), z] ∧ Kp [] H H' ∧ H' p = some (.lst (us.map V.int)) ∧ Wl H' w l r g n (runS (s0 n) (us.take i)) st ∧ StOk n (us.take i) st ∧ ∀ g, ¬Lv n g (us.take i)) ⟨_, _, rfl, k1, hp1, hW, StOk.nil n0, fun g => ever_nil⟩ ?_ ?_
  · rintro i σ' H2 hi ⟨st, z, rfl, k2, hp2, hW2, hst, hno⟩
    have hil : i < us.length := by omega
    have hu : us[i]? = some (us.getD i default) := by simp [List.getD, List.getElem?_eq_getElem hil]
    obtain ⟨hop, hpar, hlt⟩ := hon.at_ hu
    have ho1 := hop.1
    have ho2 := hop.2
    have W := (hon.take i).wf n0 n1
    have hsl := hst.len
    have hti : (us.take i).length = i := by rw [List.length_take]; omega
    have hlt2 := Lv_take (n := n) hu
    have hbk : lateF (runS (s0 n) (us.take i)) (stB st) ((us.getD i default).natAbs : Int) = lateF (runS (s0 n) (us.take i)) (bkF us i) ((us.getD i default).natAbs : Int) := late_congr W (fun u u1 u2 => by
      rw [hst.bk (hon.take i).1 (hon.take i).2 u u1 u2]
      unfold bkF
      rw [List.take_length]) (by omega) (by omega)
    have hmore : us.take (i + 1) = us.take i ++ [us.getD i default] := take_snoc hu
    have hge : us.getD (Int.toNat (i : Int)) default = us.getD i default := by rw [Int.toNat_natCast]
    walk_at "w"
    rw [hge]
    generalize us.getD i default = o at hop hpar hlt hbk hmore hlt2 ho1 ho2 hge
    refine ⟨w, l, r, g, n, _, _, st, rfl, hW2, W, hsl, by omega, by omega, fun t H3 ht k3 ht3 => ?_⟩
    rw [hbk] at ht3
    have hp3 := k3.at0 hp2
    have hW3 := hW2.kp0 k3
    have k03 := k2.trans0 k3
    walk_at "w"
    refine w_ite (fun c => ?_) (fun c => ?_)
    · walk_at "w"
      exact k i H3 k03 (by omega) hno
    · have hnil : lateF (runS (s0 n) (us.take i)) (bkF us i) (o.natAbs : Int) = [] := List.length_eq_zero_iff.mp (by omega)
      walk_at "w"
      rw [hge]
      refine ⟨w, l, r, g, n, o, _, st, rfl, hW3, W, hsl, hop, fun H4 hW4 k4 => ?_⟩
      rw [← runS_snoc, ← hmore] at hW4
      have hstep := hst.step n0 hop hpar hlt
      rw [← hmore] at hstep
      walk_at "w"
      exact ⟨_, _, rfl, kp_newM k03 hl hr' hg k4, k4 p _ hp3 (fun z => sP p (List.mem_cons_of_mem _ z) rfl), hW4, hstep, fun g z => by
        rcases (hlt2 g).mp z with y | y
        · exact hno g y
        · rw [hnil] at y; exact absurd y List.not_mem_nil⟩
  · rintro σ' H2 ⟨st, z, rfl, k2, hp2, hW2, hst, hno⟩
    walk_at "w"
    refine k _ H2 k2 (Nat.le_refl _) ?_
    simpa using hno
def sp__law_after (a : AD) : Sp := fun vs H Q _ => ∃ (p : Addr) (n : Int) (us : List Int), vs = [.int n, .ref p] ∧ 0 ≤ n ∧ n ≤ 60 ∧ H p = some (.lst (us.map V.int)) ∧ Onc n us ∧ us.length ≤ 1000 ∧ ∀ (w l r g : Addr) (st : List Int) (H' : Hp), H w = none → H l = none → H r = none → H g = none → Kp [] H H' → Wl H' w l r g n (runS (s0 n) us) st → StOk n us st → Q (.ref w) H'
theorem sc__law_after : FnScope ["_law_size_here", "_law_log_here", "_law_book", "_law_operation"] ["_law_size_here", "_law_log_here"] (defScope s__law_after) := ⟨rfl, rfl, rfl, by decide +kernel, rfl, by decide +kernel, by decide +kernel⟩
theorem ok__law_after {P : Program} {w : World} {K : PySem.W.Frag} {mg : Str → Option Value} {base : Heap} {a : AD} (T : Txt P K mg a) (G__law_start : FnA P w K mg base 2 a.f__law_start ["_law_size_here"] (sp__law_start a)) (G__law_step : FnA P w K mg base 2 a.f__law_step ["_law_book", "_law_operation"] (sp__law_step a)) : FnA P w K mg base 3 a.f__law_after ["_law_size_here", "_law_log_here"] (sp__law_after a) := by
  obtain ⟨fd, F, b⟩ := T.F__law_after
  refine FnA.of F sc__law_after b (fun vs H Q E h => by first | (obtain ⟨rfl, _⟩ := h; rfl) | (obtain ⟨_, rfl, _⟩ := h; rfl) | (obtain ⟨_, _, rfl, _⟩ := h; rfl) | (obtain ⟨_, _, _, rfl, _⟩ := h; rfl) | (obtain ⟨_, _, _, _, rfl, _⟩ := h; rfl) | (obtain ⟨_, _, _, _, _, rfl, _⟩ := h; rfl) | (obtain ⟨_, _, _, _, _, _, rfl, _⟩ := h; rfl) | (obtain ⟨_, _, _, _, _, _, _, rfl, _⟩ := h; rfl) | (obtain ⟨_, _, _, _, _, _, _, _, rfl, _⟩ := h; rfl) | (obtain ⟨_, _, _, _, _, _, _, _, _, rfl, _⟩ := h; rfl) | (obtain ⟨_, _, _, _, _, _, _, _, _, _, rfl, _⟩ := h; rfl) | (obtain ⟨_, _, _, _, _, _, _, _, _, _, _, rfl, _⟩ := h; rfl) | (obtain ⟨_, _, _, _, _, _, _, _, _, _, _, _, rfl, _⟩ := h; rfl) | (obtain ⟨_, _, _, _, _, _, _, _, _, _, _, _, _, rfl, _⟩ := h; rfl) | (obtain ⟨_, _, _, _, _, _, _, _, _, _, _, _, _, _, rfl, _⟩ := h; rfl) | (obtain ⟨_, _, _, _, _, _, _, _, _, _, _, _, _, _, _, rfl, _⟩ := h; rfl) | (obtain ⟨_, _, _, _, _, _, _, _, _, _, _, _, _, _, _, _, rfl, _⟩ := h; rfl) | (obtain ⟨_, _, _, _, _, _, _, _, _, _, _, _, _, _, _, _, _, rfl, _⟩ := h; rfl) | (obtain ⟨_, _, _, _, _, _, _, _, _, _, _, _, _, _, _, _, _, _, rfl, _⟩ := h; rfl) | (obtain ⟨_, _, _, _, _, _, _, _, _, _, _, _, _, _, _, _, _, _, _, rfl, _⟩ := h; rfl) | (obtain ⟨_, _, _, _, _, _, _, _, _, _, _, _, _, _, _, _, _, _, _, _, rfl, _⟩ := h; rfl) | (obtain ⟨_, _, _, _, _, _, _, _, _, _, _, _, _, _, _, _, _, _, _, _, _, rfl, _⟩ := h; rfl) | (obtain ⟨_, _, _, _, _, _, _, _, _, _, _, _, _, _, _, _, _, _, _, _, _, _, rfl, _⟩ := h; rfl) | (obtain ⟨_, _, _, _, _, _, _, _, _, _, _, _, _, _, _, _, _, _, _, _, _, _, _, rfl, _⟩ := h; rfl)) (fun cdv A outer s H vs Q E hr tk pz h => ?_)
  have hu := hr.units
  have hrH := L2H.roomH_of hr
  obtain ⟨p, n, us, rfl, n0, n1, hp, hon, hul, k⟩ := h
  refine ⟨_, (pss_cons (ps_set (i := 2) sc__law_after.nd rfl (Or.inl rfl) (pe_callA G__law_start (Room.mono hr (by decide)) T.n__law_start tk (pa_cons (pv 0) pa_nil)))
      (pss_cons (ps_for pz rfl (pi_list (pv 1)) (pg_name (i := 3) sc__law_after.nd rfl (Or.inl rfl))
      (pss_one (ps_expr (pe_callA G__law_step (Room.mono hr (by decide)) T.n__law_step tk (pa_cons (pv 2) (pa_cons (pv 3) pa_nil))))))
      (pss_one (ps_ret (pv 2))))), ?_⟩
  show (_ : Ends → L2.St → Hp → Prop) _ [some _, some _, none, none] _
  try dsimp only [L2H.cxH, cxOf]
  walk_at "w"
  refine ⟨n, rfl, n0, n1, fun w l r g H1 hw hl hr' hg hW k1 => ?_⟩
  have hp1 := k1.at0 hp
  have sP : ∀ y ∈ [w, l, r, g], y ≠ p := fun y hy z => by
    have : H y = none := four hw hl hr' hg y hy
    rw [z, hp] at this; cases this
  walk_at "w"
  refine w_forM (us := us) (f := V.int) hp1 (fun i σ' H' => ∃ (st : List Int) (z : Option V), σ' = [some (.int n), some (.ref p), some (.ref w), z] ∧ Kp [] H H' ∧ H' p = some (.lst (us.map V.int)) ∧ Wl H' w l r g n (runS (s0 n) (us.take i)) st ∧ StOk n (us.take i) st) ⟨_, _, rfl, k1, hp1, hW, StOk.nil n0⟩ (fun i σ' H' _ q => by obtain ⟨_, _, _, _, q, _⟩ := q; exact q) ?_ ?_
  · rintro i o σ' H2 hu ⟨st, z, rfl, k2, hp2, hW2, hst⟩
    obtain ⟨hop, hpar, hlt⟩ := hon.at_ hu
    have W := (hon.take i).wf n0 n1
    have hsl := hst.len
    have hmore : us.take (i + 1) = us.take i ++ [o] := take_snoc hu
    walk_at "w"
    refine ⟨w, l, r, g, n, o, _, st, rfl, hW2, W, hsl, hop, fun H4 hW4 k4 => ?_⟩
    rw [← runS_snoc, ← hmore] at hW4
    have hstep := hst.step n0 hop hpar hlt
    rw [← hmore] at hstep
    walk_at "w"
    exact ⟨_, _, rfl, kp_newM k2 hl hr' hg k4, k4 p _ hp2 (fun z => sP p (List.mem_cons_of_mem _ z) rfl), hW4, hstep⟩
  · rintro σ' H2 ⟨st, z, rfl, k2, hp2, hW2, hst⟩
    rw [List.take_length] at hW2 hst
    walk_at "w"
    exact k w l r g st H2 hw hl hr' hg k2 hW2 hst
/-! ### the states by the links -/
def sp__law_states (a : AD) : Sp := fun vs H Q _ => ∃ (w l r g : Addr) (n : Int) (s : St3) (st : List Int), vs = [.int n, .ref w] ∧ Wl H w l r g n s st ∧ WFs n s ∧ ∀ p H', H p = none → Kp [] H H' → H' p = some (.lst ((statesOf n s.1 s.2.1).map V.str)) → Q (.ref p) H'
theorem sc__law_states : FnScope ["_law_size_here", "_law_book", "_law_states_here", "_law_gap", "_law_by_low", "_law_by_high"] ["_law_size_here", "_law_book"] (defScope s__law_states) := ⟨rfl, rfl, rfl, by decide +kernel, rfl, by decide +kernel, by decide +kernel⟩
theorem ok__law_states {P : Program} {w : World} {K : PySem.W.Frag} {mg : Str → Option Value} {base : Heap} {a : AD} (T : Txt P K mg a) : FnA P w K mg base 2 a.f__law_states ["_law_size_here", "_law_book"] (sp__law_states a) := by
  obtain ⟨fd, F, b⟩ := T.F__law_states
  refine FnA.of F sc__law_states b (fun vs H Q E h => by first | (obtain ⟨rfl, _⟩ := h; rfl) | (obtain ⟨_, rfl, _⟩ := h; rfl) | (obtain ⟨_, _, rfl, _⟩ := h; rfl) | (obtain ⟨_, _, _, rfl, _⟩ := h; rfl) | (obtain ⟨_, _, _, _, rfl, _⟩ := h; rfl) | (obtain ⟨_, _, _, _, _, rfl, _⟩ := h; rfl) | (obtain ⟨_, _, _, _, _, _, rfl, _⟩ := h; rfl) | (obtain ⟨_, _, _, _, _, _, _, rfl, _⟩ := h; rfl) | (obtain ⟨_, _, _, _, _, _, _, _, rfl, _⟩ := h; rfl) | (obtain ⟨_, _, _, _, _, _, _, _, _, rfl, _⟩ := h; rfl) | (obtain ⟨_, _, _, _, _, _, _, _, _, _, rfl, _⟩ := h; rfl) | (obtain ⟨_, _, _, _, _, _, _, _, _, _, _, rfl, _⟩ := h; rfl) | (obtain ⟨_, _, _, _, _, _, _, _, _, _, _, _, rfl, _⟩ := h; rfl) | (obtain ⟨_, _, _, _, _, _, _, _, _, _, _, _, _, rfl, _⟩ := h; rfl) | (obtain ⟨_, _, _, _, _, _, _, _, _, _, _, _, _, _, rfl, _⟩ := h; rfl) | (obtain ⟨_, _, _, _, _, _, _, _, _, _, _, _, _, _, _, rfl, _⟩ := h; rfl) | (obtain ⟨_, _, _, _, _, _, _, _, _, _, _, _, _, _, _, _, rfl, _⟩ := h; rfl) | (obtain ⟨_, _, _, _, _, _, _, _, _, _, _, _, _, _, _, _, _, rfl, _⟩ := h; rfl) | (obtain ⟨_, _, _, _, _, _, _, _, _, _, _, _, _, _, _, _, _, _, rfl, _⟩ := h; rfl) | (obtain ⟨_, _, _, _, _, _, _, _, _, _, _, _, _, _, _, _, _, _, _, rfl, _⟩ := h; rfl) | (obtain ⟨_, _, _, _, _, _, _, _, _, _, _, _, _, _, _, _, _, _, _, _, rfl, _⟩ := h; rfl) | (obtain ⟨_, _, _, _, _, _, _, _, _, _, _, _, _, _, _, _, _, _, _, _, _, rfl, _⟩ := h; rfl) | (obtain ⟨_, _, _, _, _, _, _, _, _, _, _, _, _, _, _, _, _, _, _, _, _, _, rfl, _⟩ := h; rfl) | (obtain ⟨_, _, _, _, _, _, _, _, _, _, _, _, _, _, _, _, _, _, _, _, _, _, _, rfl, _⟩ := h; rfl)) (fun cdv A outer s H vs Q E hr tk pz h => ?_)
  have hu := hr.units
  have hrH := L2H.roomH_of hr
  obtain ⟨w, l, r, g, n, s, st, rfl, hW, W, k⟩ := h
  refine ⟨_, (pss_cons (ps_set (i := 2) sc__law_states.nd rfl (Or.inl rfl) (pe_lst pa_nil))
      (pss_cons (ps_for pz rfl (pi_range1 rfl T.b_range (pa_cons (pe_op o_add (pv 0) pe_int) pa_nil)) (pg_name (i := 3) sc__law_states.nd rfl (Or.inl rfl))
      (pss_cons (ps_set (i := 4) sc__law_states.nd rfl (Or.inl rfl) (pe_cmpR (o_eq hu) (pe_ix ix_seq (pe_ix ix_seq (pv 1) pe_int (fun _ _ => rfl)) (pv 3) (fun _ _ => rfl)) (pe_op o_add (pv 3) pe_int) (nomark _)))
      (pss_cons (ps_set (i := 5) sc__law_states.nd rfl (Or.inl rfl) (pe_cmpR (o_eq hu) (pe_ix ix_seq (pe_ix ix_seq (pv 1) pe_int (fun _ _ => rfl)) (pe_op o_add (pv 3) pe_int) (fun _ _ => rfl)) (pv 3) (nomark _)))
      (pss_one (ps_if (PW.pt (pw_and (pt_tru (pv 4)) (pw_and1 (pt_tru (pv 5))))) (pss_one (ps_expr (pe_bm PySem.F.plainAttrs_list PySem.F.slot_list_append PySem.F.type_list_append mt_append (pv 2) (pa_cons pe_str pa_nil)))) (pss_one (ps_if (pt_tru (pv 4)) (pss_one (ps_expr (pe_bm PySem.F.plainAttrs_list PySem.F.slot_list_append PySem.F.type_list_append mt_append (pv 2) (pa_cons pe_str pa_nil)))) (pss_one (ps_if (pt_tru (pv 5)) (pss_one (ps_expr (pe_bm PySem.F.plainAttrs_list PySem.F.slot_list_append PySem.F.type_list_append mt_append (pv 2) (pa_cons pe_str pa_nil)))) (pss_one (ps_expr (pe_bm PySem.F.plainAttrs_list PySem.F.slot_list_append PySem.F.type_list_append mt_append (pv 2) (pa_cons pe_str pa_nil)))))))))))))
      (pss_one (ps_ret (pv 2))))), ?_⟩
  show (_ : Ends → L2.St → Hp → Prop) _ [some _, some _, none, none, none, none] _
  try dsimp only [L2H.cxH, cxOf]
  have n0 := W.n0
  have n1 := W.n1
  have w1 := rn_len W
  have w2 := W.hL
  walk_at "w"
  intro p hp
  have kp := Kp.refl.new (ms := []) (o := .lst []) hp
  have hp1 : upd H p (.lst []) p = some (.lst (([] : List Str).map V.str)) := upd_same
  have hW1 := hW.kp0 kp
  have sP : ∀ y ∈ [w, l, r, g], y ∉ [p] := fun y hy z => by
    obtain ⟨o, eo⟩ := hW.live y hy
    rw [List.mem_singleton.mp z, hp] at eo; cases eo
  generalize upd H p (.lst []) = H1 at kp hp1 hW1 ⊢
  walk_at "w"
  refine w_rng1 (n := n + 1) (by omega) (by omega) (fun i σ' H' => ∃ (z1 z2 z3 : Option V), σ' = [some (.int n), some (.ref w), some (.ref p), z1, z2, z3] ∧ Kp [] H H' ∧ Wl H' w l r g n s st ∧ H' p = some (.lst (((List.range i).map fun i : Nat => stateOf s.1 s.2.1 (i : Int)).map V.str))) ⟨_, _, _, rfl, kp, hW1, hp1⟩ ?_ ?_
  · rintro i σ' H2 hi ⟨z1, z2, z3, rfl, k2, hW2, hp2⟩
    obtain ⟨hw2, hl2, hr2, hg2, _⟩ := id hW2
    have ge : (s.1 ++ [n + 2]).getD (i : Int).toNat default = s.1.getD i default := by
      have := W.hR
      rw [Int.toNat_natCast, List.getD_eq_getElem?_getD, List.getElem?_append_left (by omega), ← List.getD_eq_getElem?_getD]
    walk_at "w"
    rw [ge]
    have fin : ∀ (t : Str) (z2 z3 : Option V), t = stateOf s.1 s.2.1 (i : Int) → ∃ (z1' z2' z3' : Option V), [some (V.int n), some (.ref w), some (.ref p), some (.int (i : Int)), z2, z3] = [some (.int n), some (.ref w), some (.ref p), z1', z2', z3'] ∧ Kp [] H (upd H2 p (.lst ((((List.range i).map fun i : Nat => stateOf s.1 s.2.1 (i : Int)) ++ [t]).map V.str))) ∧ Wl (upd H2 p (.lst ((((List.range i).map fun i : Nat => stateOf s.1 s.2.1 (i : Int)) ++ [t]).map V.str))) w l r g n s st ∧ upd H2 p (.lst ((((List.range i).map fun i : Nat => stateOf s.1 s.2.1 (i : Int)) ++ [t]).map V.str)) p = some (.lst (((List.range (i + 1)).map fun i : Nat => stateOf s.1 s.2.1 (i : Int)).map V.str)) := fun t z2 z3 et => by
      refine ⟨_, _, _, rfl, k2.own hp, hW2.kpS (Kp.refl.mut (ms := [p]) (by simp)) sP, ?_⟩
      rw [upd_same, List.range_succ, List.map_append, List.map_append, List.map_append, et]; rfl
    refine w_ite (fun c1 => ?_) (fun c1 => ?_)
    · walk_at "w"
      refine w_ite (fun c2 => ?_) (fun c2 => ?_)
      · walk_at "w"
        exact fin "joined" _ _ (by unfold stateOf; rw [Int.toNat_natCast, if_pos c1, if_pos c2])
      · walk_at "w"
        exact fin "left" _ _ (by unfold stateOf; rw [Int.toNat_natCast, if_pos c1, if_neg c2])
    · walk_at "w"
      refine w_ite (fun c2 => ?_) (fun c2 => ?_)
      · walk_at "w"
        exact fin "right" _ _ (by unfold stateOf; rw [Int.toNat_natCast, if_neg c1, if_pos c2])
      · walk_at "w"
        exact fin "lost" _ _ (by unfold stateOf; rw [Int.toNat_natCast, if_neg c1, if_neg c2])
  · rintro σ' H2 ⟨z1, z2, z3, rfl, k2, hW2, hp2⟩
    walk_at "w"
    exact k p H2 hp k2 hp2
/-! ### answers -/
def sp__law_integer (a : AD) : Sp := fun vs H Q _ => ∃ t : Int, vs = [.int t] ∧ Q (.bl true) H
theorem sc__law_integer : FnScope ["_law_told"] ["_law_told"] (defScope s__law_integer) := ⟨rfl, rfl, rfl, by decide +kernel, rfl, by decide +kernel, by decide +kernel⟩
theorem ok__law_integer {P : Program} {w : World} {K : PySem.W.Frag} {mg : Str → Option Value} {base : Heap} {a : AD} (T : Txt P K mg a) : FnA P w K mg base 2 a.f__law_integer ["_law_told"] (sp__law_integer a) := by
  obtain ⟨fd, F, b⟩ := T.F__law_integer
  refine FnA.of F sc__law_integer b (fun vs H Q E h => by first | (obtain ⟨rfl, _⟩ := h; rfl) | (obtain ⟨_, rfl, _⟩ := h; rfl) | (obtain ⟨_, _, rfl, _⟩ := h; rfl) | (obtain ⟨_, _, _, rfl, _⟩ := h; rfl) | (obtain ⟨_, _, _, _, rfl, _⟩ := h; rfl) | (obtain ⟨_, _, _, _, _, rfl, _⟩ := h; rfl) | (obtain ⟨_, _, _, _, _, _, rfl, _⟩ := h; rfl) | (obtain ⟨_, _, _, _, _, _, _, rfl, _⟩ := h; rfl) | (obtain ⟨_, _, _, _, _, _, _, _, rfl, _⟩ := h; rfl) | (obtain ⟨_, _, _, _, _, _, _, _, _, rfl, _⟩ := h; rfl) | (obtain ⟨_, _, _, _, _, _, _, _, _, _, rfl, _⟩ := h; rfl) | (obtain ⟨_, _, _, _, _, _, _, _, _, _, _, rfl, _⟩ := h; rfl) | (obtain ⟨_, _, _, _, _, _, _, _, _, _, _, _, rfl, _⟩ := h; rfl) | (obtain ⟨_, _, _, _, _, _, _, _, _, _, _, _, _, rfl, _⟩ := h; rfl) | (obtain ⟨_, _, _, _, _, _, _, _, _, _, _, _, _, _, rfl, _⟩ := h; rfl) | (obtain ⟨_, _, _, _, _, _, _, _, _, _, _, _, _, _, _, rfl, _⟩ := h; rfl) | (obtain ⟨_, _, _, _, _, _, _, _, _, _, _, _, _, _, _, _, rfl, _⟩ := h; rfl) | (obtain ⟨_, _, _, _, _, _, _, _, _, _, _, _, _, _, _, _, _, rfl, _⟩ := h; rfl) | (obtain ⟨_, _, _, _, _, _, _, _, _, _, _, _, _, _, _, _, _, _, rfl, _⟩ := h; rfl) | (obtain ⟨_, _, _, _, _, _, _, _, _, _, _, _, _, _, _, _, _, _, _, rfl, _⟩ := h; rfl) | (obtain ⟨_, _, _, _, _, _, _, _, _, _, _, _, _, _, _, _, _, _, _, _, rfl, _⟩ := h; rfl) | (obtain ⟨_, _, _, _, _, _, _, _, _, _, _, _, _, _, _, _, _, _, _, _, _, rfl, _⟩ := h; rfl) | (obtain ⟨_, _, _, _, _, _, _, _, _, _, _, _, _, _, _, _, _, _, _, _, _, _, rfl, _⟩ := h; rfl) | (obtain ⟨_, _, _, _, _, _, _, _, _, _, _, _, _, _, _, _, _, _, _, _, _, _, _, rfl, _⟩ := h; rfl)) (fun cdv A outer s H vs Q E hr tk pz h => ?_)
  have hu := hr.units
  have hrH := L2H.roomH_of hr
  obtain ⟨t, rfl, k⟩ := h
  refine ⟨_, (pss_one (ps_ret (pe_and (pe_callB (call_isi) rfl T.b_isinstance (by decide +kernel) (pa_cons (pv 0) (pa_cons (pe_bltn (v := .ty "int") rfl T.b_int (by decide +kernel) rfl) pa_nil))) (pe_one (pe_not (pe_callB (call_isi) rfl T.b_isinstance (by decide +kernel) (pa_cons (pv 0) (pa_cons (pe_bltn (v := .ty "bool") rfl T.b_bool (by decide +kernel) rfl) pa_nil)))))))), ?_⟩
  show (_ : Ends → L2.St → Hp → Prop) _ [some _] _
  try dsimp only [L2H.cxH, cxOf]
  walk_at "w"
  exact k
def sp__law_row (a : AD) : Sp := fun vs H Q _ => ∃ (p q : Addr) (us : List Int), vs = [.ref p, .ref q] ∧ H p = some (.lst (us.map V.int)) ∧ H q = some (.lst (us.map V.int)) ∧ us.length ≤ 1000000 ∧ Q (.bl true) H
theorem sc__law_row : FnScope ["_law_told", "_law_due", "_law_k"] ["_law_told", "_law_due"] (defScope s__law_row) := ⟨rfl, rfl, rfl, by decide +kernel, rfl, by decide +kernel, by decide +kernel⟩
theorem ok__law_row {P : Program} {w : World} {K : PySem.W.Frag} {mg : Str → Option Value} {base : Heap} {a : AD} (T : Txt P K mg a) (G__law_integer : FnA P w K mg base 2 a.f__law_integer ["_law_told"] (sp__law_integer a)) : FnA P w K mg base 3 a.f__law_row ["_law_told", "_law_due"] (sp__law_row a) := by
  obtain ⟨fd, F, b⟩ := T.F__law_row
  refine FnA.of F sc__law_row b (fun vs H Q E h => by first | (obtain ⟨rfl, _⟩ := h; rfl) | (obtain ⟨_, rfl, _⟩ := h; rfl) | (obtain ⟨_, _, rfl, _⟩ := h; rfl) | (obtain ⟨_, _, _, rfl, _⟩ := h; rfl) | (obtain ⟨_, _, _, _, rfl, _⟩ := h; rfl) | (obtain ⟨_, _, _, _, _, rfl, _⟩ := h; rfl) | (obtain ⟨_, _, _, _, _, _, rfl, _⟩ := h; rfl) | (obtain ⟨_, _, _, _, _, _, _, rfl, _⟩ := h; rfl) | (obtain ⟨_, _, _, _, _, _, _, _, rfl, _⟩ := h; rfl) | (obtain ⟨_, _, _, _, _, _, _, _, _, rfl, _⟩ := h; rfl) | (obtain ⟨_, _, _, _, _, _, _, _, _, _, rfl, _⟩ := h; rfl) | (obtain ⟨_, _, _, _, _, _, _, _, _, _, _, rfl, _⟩ := h; rfl) | (obtain ⟨_, _, _, _, _, _, _, _, _, _, _, _, rfl, _⟩ := h; rfl) | (obtain ⟨_, _, _, _, _, _, _, _, _, _, _, _, _, rfl, _⟩ := h; rfl) | (obtain ⟨_, _, _, _, _, _, _, _, _, _, _, _, _, _, rfl, _⟩ := h; rfl) | (obtain ⟨_, _, _, _, _, _, _, _, _, _, _, _, _, _, _, rfl, _⟩ := h; rfl) | (obtain ⟨_, _, _, _, _, _, _, _, _, _, _, _, _, _, _, _, rfl, _⟩ := h; rfl) | (obtain ⟨_, _, _, _, _, _, _, _, _, _, _, _, _, _, _, _, _, rfl, _⟩ := h; rfl) | (obtain ⟨_, _, _, _, _, _, _, _, _, _, _, _, _, _, _, _, _, _, rfl, _⟩ := h; rfl) | (obtain ⟨_, _, _, _, _, _, _, _, _, _, _, _, _, _, _, _, _, _, _, rfl, _⟩ := h; rfl) | (obtain ⟨_, _, _, _, _, _, _, _, _, _, _, _, _, _, _, _, _, _, _, _, rfl, _⟩ := h; rfl) | (obtain ⟨_, _, _, _, _, _, _, _, _, _, _, _, _, _, _, _, _, _, _, _, _, rfl, _⟩ := h; rfl) | (obtain ⟨_, _, _, _, _, _, _, _, _, _, _, _, _, _, _, _, _, _, _, _, _, _, rfl, _⟩ := h; rfl) | (obtain ⟨_, _, _, _, _, _, _, _, _, _, _, _, _, _, _, _, _, _, _, _, _, _, _, rfl, _⟩ := h; rfl)) (fun cdv A outer s H vs Q E hr tk pz h => ?_)
  have hu := hr.units
  have hrH := L2H.roomH_of hr
  obtain ⟨p, q, us, rfl, hp, hq, hl, k⟩ := h
  refine ⟨_, (pss_cons (ps_if (PW.pt (pw_or (pt_not (pt_tru (pe_callB (call_isi) rfl T.b_isinstance (by decide +kernel) (pa_cons (pv 0) (pa_cons (pe_bltn (v := .ty "list") rfl T.b_list (by decide +kernel) rfl) pa_nil))))) (pw_or1 (pt_cmpA (o_ne hu) (pe_callB (b_len) rfl T.b_len (by decide +kernel) (pa_cons (pv 0) pa_nil)) (pe_callB (b_len) rfl T.b_len (by decide +kernel) (pa_cons (pv 1) pa_nil)) (nomark _))))) (pss_one (ps_ret pe_bl)) pss_nil)
      (pss_cons (ps_for pz rfl (pi_range1 rfl T.b_range (pa_cons (pe_callB (b_len) rfl T.b_len (by decide +kernel) (pa_cons (pv 1) pa_nil)) pa_nil)) (pg_name (i := 2) sc__law_row.nd rfl (Or.inl rfl))
      (pss_one (ps_if (PW.pt (pw_or (pt_not (pt_tru (pe_callA G__law_integer (Room.mono hr (by decide)) T.n__law_integer tk (pa_cons (pe_ix ix_seq (pv 0) (pv 2) (fun _ _ => rfl)) pa_nil)))) (pw_or1 (pt_cmpA (o_ne hu) (pe_ix ix_seq (pv 0) (pv 2) (fun _ _ => rfl)) (pe_ix ix_seq (pv 1) (pv 2) (fun _ _ => rfl)) (nomark _))))) (pss_one (ps_ret pe_bl)) pss_nil)))
      (pss_one (ps_ret pe_bl)))), ?_⟩
  show (_ : Ends → L2.St → Hp → Prop) _ [some _, some _, none] _
  try dsimp only [L2H.cxH, cxOf]
  walk_at "w"
  refine w_rng1 (n := (us.length : Int)) (by omega) (by omega) (fun i σ' H' => (∃ x, σ' = [some (.ref p), some (.ref q), x]) ∧ H' = H) ⟨⟨_, rfl⟩, rfl⟩ ?_ ?_
  · rintro i σ' H' hi ⟨⟨x, rfl⟩, rfl⟩
    walk_at "w"
    refine ⟨_, rfl, ?_⟩
    walk_at "w"
    exact ⟨⟨_, rfl⟩, rfl⟩
  · rintro σ' H' ⟨⟨x, rfl⟩, rfl⟩
    walk_at "w"
    exact k
def sp__law_texts (a : AD) : Sp := fun vs H Q _ => ∃ (p q : Addr) (us : List Str), vs = [.ref p, .ref q] ∧ H p = some (.lst (us.map V.str)) ∧ H q = some (.lst (us.map V.str)) ∧ us.length ≤ 1000000 ∧ Q (.bl true) H
theorem sc__law_texts : FnScope ["_law_told", "_law_due", "_law_k"] ["_law_told", "_law_due"] (defScope s__law_texts) := ⟨rfl, rfl, rfl, by decide +kernel, rfl, by decide +kernel, by decide +kernel⟩
theorem ok__law_texts {P : Program} {w : World} {K : PySem.W.Frag} {mg : Str → Option Value} {base : Heap} {a : AD} (T : Txt P K mg a) : FnA P w K mg base 2 a.f__law_texts ["_law_told", "_law_due"] (sp__law_texts a) := by
  obtain ⟨fd, F, b⟩ := T.F__law_texts
  refine FnA.of F sc__law_texts b (fun vs H Q E h => by first | (obtain ⟨rfl, _⟩ := h; rfl) | (obtain ⟨_, rfl, _⟩ := h; rfl) | (obtain ⟨_, _, rfl, _⟩ := h; rfl) | (obtain ⟨_, _, _, rfl, _⟩ := h; rfl) | (obtain ⟨_, _, _, _, rfl, _⟩ := h; rfl) | (obtain ⟨_, _, _, _, _, rfl, _⟩ := h; rfl) | (obtain ⟨_, _, _, _, _, _, rfl, _⟩ := h; rfl) | (obtain ⟨_, _, _, _, _, _, _, rfl, _⟩ := h; rfl) | (obtain ⟨_, _, _, _, _, _, _, _, rfl, _⟩ := h; rfl) | (obtain ⟨_, _, _, _, _, _, _, _, _, rfl, _⟩ := h; rfl) | (obtain ⟨_, _, _, _, _, _, _, _, _, _, rfl, _⟩ := h; rfl) | (obtain ⟨_, _, _, _, _, _, _, _, _, _, _, rfl, _⟩ := h; rfl) | (obtain ⟨_, _, _, _, _, _, _, _, _, _, _, _, rfl, _⟩ := h; rfl) | (obtain ⟨_, _, _, _, _, _, _, _, _, _, _, _, _, rfl, _⟩ := h; rfl) | (obtain ⟨_, _, _, _, _, _, _, _, _, _, _, _, _, _, rfl, _⟩ := h; rfl) | (obtain ⟨_, _, _, _, _, _, _, _, _, _, _, _, _, _, _, rfl, _⟩ := h; rfl) | (obtain ⟨_, _, _, _, _, _, _, _, _, _, _, _, _, _, _, _, rfl, _⟩ := h; rfl) | (obtain ⟨_, _, _, _, _, _, _, _, _, _, _, _, _, _, _, _, _, rfl, _⟩ := h; rfl) | (obtain ⟨_, _, _, _, _, _, _, _, _, _, _, _, _, _, _, _, _, _, rfl, _⟩ := h; rfl) | (obtain ⟨_, _, _, _, _, _, _, _, _, _, _, _, _, _, _, _, _, _, _, rfl, _⟩ := h; rfl) | (obtain ⟨_, _, _, _, _, _, _, _, _, _, _, _, _, _, _, _, _, _, _, _, rfl, _⟩ := h; rfl) | (obtain ⟨_, _, _, _, _, _, _, _, _, _, _, _, _, _, _, _, _, _, _, _, _, rfl, _⟩ := h; rfl) | (obtain ⟨_, _, _, _, _, _, _, _, _, _, _, _, _, _, _, _, _, _, _, _, _, _, rfl, _⟩ := h; rfl) | (obtain ⟨_, _, _, _, _, _, _, _, _, _, _, _, _, _, _, _, _, _, _, _, _, _, _, rfl, _⟩ := h; rfl)) (fun cdv A outer s H vs Q E hr tk pz h => ?_)
  have hu := hr.units
  have hrH := L2H.roomH_of hr
  obtain ⟨p, q, us, rfl, hp, hq, hl, k⟩ := h
  refine ⟨_, (pss_cons (ps_if (PW.pt (pw_or (pt_not (pt_tru (pe_callB (call_isi) rfl T.b_isinstance (by decide +kernel) (pa_cons (pv 0) (pa_cons (pe_bltn (v := .ty "list") rfl T.b_list (by decide +kernel) rfl) pa_nil))))) (pw_or1 (pt_cmpA (o_ne hu) (pe_callB (b_len) rfl T.b_len (by decide +kernel) (pa_cons (pv 0) pa_nil)) (pe_callB (b_len) rfl T.b_len (by decide +kernel) (pa_cons (pv 1) pa_nil)) (nomark _))))) (pss_one (ps_ret pe_bl)) pss_nil)
      (pss_cons (ps_for pz rfl (pi_range1 rfl T.b_range (pa_cons (pe_callB (b_len) rfl T.b_len (by decide +kernel) (pa_cons (pv 1) pa_nil)) pa_nil)) (pg_name (i := 2) sc__law_texts.nd rfl (Or.inl rfl))
      (pss_one (ps_if (PW.pt (pw_or (pt_not (pt_tru (pe_callB (call_isi) rfl T.b_isinstance (by decide +kernel) (pa_cons (pe_ix ix_seq (pv 0) (pv 2) (fun _ _ => rfl)) (pa_cons (pe_bltn (v := .ty "str") rfl T.b_str (by decide +kernel) rfl) pa_nil))))) (pw_or1 (pt_cmpA (o_ne hu) (pe_ix ix_seq (pv 0) (pv 2) (fun _ _ => rfl)) (pe_ix ix_seq (pv 1) (pv 2) (fun _ _ => rfl)) (nomark _))))) (pss_one (ps_ret pe_bl)) pss_nil)))
      (pss_one (ps_ret pe_bl)))), ?_⟩
  show (_ : Ends → L2.St → Hp → Prop) _ [some _, some _, none] _
  try dsimp only [L2H.cxH, cxOf]
  walk_at "w"
  refine w_rng1 (n := (us.length : Int)) (by omega) (by omega) (fun i σ' H' => (∃ x, σ' = [some (.ref p), some (.ref q), x]) ∧ H' = H) ⟨⟨_, rfl⟩, rfl⟩ ?_ ?_
  · rintro i σ' H' hi ⟨⟨x, rfl⟩, rfl⟩
    walk_at "w"
    exact ⟨⟨_, rfl⟩, rfl⟩
  · rintro σ' H' ⟨⟨x, rfl⟩, rfl⟩
    walk_at "w"
    exact k
def sp__law_is_pair (a : AD) : Sp := fun vs H Q _ => ∃ (p : Addr) (i g m n : Int), vs = [.ref p, .int m, .int n] ∧ H p = some (.tup [.int i, .int g]) ∧ 0 ≤ i ∧ i < m ∧ 0 ≤ g ∧ g ≤ n ∧ Q (.bl true) H
theorem sc__law_is_pair : FnScope ["_law_told", "_law_many", "_law_size_here"] ["_law_told", "_law_many", "_law_size_here"] (defScope s__law_is_pair) := ⟨rfl, rfl, rfl, by decide +kernel, rfl, by decide +kernel, by decide +kernel⟩
theorem ok__law_is_pair {P : Program} {w : World} {K : PySem.W.Frag} {mg : Str → Option Value} {base : Heap} {a : AD} (T : Txt P K mg a) (G__law_integer : FnA P w K mg base 2 a.f__law_integer ["_law_told"] (sp__law_integer a)) : FnA P w K mg base 3 a.f__law_is_pair ["_law_told", "_law_many", "_law_size_here"] (sp__law_is_pair a) := by
  obtain ⟨fd, F, b⟩ := T.F__law_is_pair
  refine FnA.of F sc__law_is_pair b (fun vs H Q E h => by first | (obtain ⟨rfl, _⟩ := h; rfl) | (obtain ⟨_, rfl, _⟩ := h; rfl) | (obtain ⟨_, _, rfl, _⟩ := h; rfl) | (obtain ⟨_, _, _, rfl, _⟩ := h; rfl) | (obtain ⟨_, _, _, _, rfl, _⟩ := h; rfl) | (obtain ⟨_, _, _, _, _, rfl, _⟩ := h; rfl) | (obtain ⟨_, _, _, _, _, _, rfl, _⟩ := h; rfl) | (obtain ⟨_, _, _, _, _, _, _, rfl, _⟩ := h; rfl) | (obtain ⟨_, _, _, _, _, _, _, _, rfl, _⟩ := h; rfl) | (obtain ⟨_, _, _, _, _, _, _, _, _, rfl, _⟩ := h; rfl) | (obtain ⟨_, _, _, _, _, _, _, _, _, _, rfl, _⟩ := h; rfl) | (obtain ⟨_, _, _, _, _, _, _, _, _, _, _, rfl, _⟩ := h; rfl) | (obtain ⟨_, _, _, _, _, _, _, _, _, _, _, _, rfl, _⟩ := h; rfl) | (obtain ⟨_, _, _, _, _, _, _, _, _, _, _, _, _, rfl, _⟩ := h; rfl) | (obtain ⟨_, _, _, _, _, _, _, _, _, _, _, _, _, _, rfl, _⟩ := h; rfl) | (obtain ⟨_, _, _, _, _, _, _, _, _, _, _, _, _, _, _, rfl, _⟩ := h; rfl) | (obtain ⟨_, _, _, _, _, _, _, _, _, _, _, _, _, _, _, _, rfl, _⟩ := h; rfl) | (obtain ⟨_, _, _, _, _, _, _, _, _, _, _, _, _, _, _, _, _, rfl, _⟩ := h; rfl) | (obtain ⟨_, _, _, _, _, _, _, _, _, _, _, _, _, _, _, _, _, _, rfl, _⟩ := h; rfl) | (obtain ⟨_, _, _, _, _, _, _, _, _, _, _, _, _, _, _, _, _, _, _, rfl, _⟩ := h; rfl) | (obtain ⟨_, _, _, _, _, _, _, _, _, _, _, _, _, _, _, _, _, _, _, _, rfl, _⟩ := h; rfl) | (obtain ⟨_, _, _, _, _, _, _, _, _, _, _, _, _, _, _, _, _, _, _, _, _, rfl, _⟩ := h; rfl) | (obtain ⟨_, _, _, _, _, _, _, _, _, _, _, _, _, _, _, _, _, _, _, _, _, _, rfl, _⟩ := h; rfl) | (obtain ⟨_, _, _, _, _, _, _, _, _, _, _, _, _, _, _, _, _, _, _, _, _, _, _, rfl, _⟩ := h; rfl)) (fun cdv A outer s H vs Q E hr tk pz h => ?_)
  have hu := hr.units
  have hrH := L2H.roomH_of hr
  obtain ⟨p, i, g, m, n, rfl, hp, i0, i1, g0, g1, k⟩ := h
  refine ⟨_, (pss_cons (ps_if (PW.pt (pw_or (pt_not (pt_tru (pe_callB (call_isi) rfl T.b_isinstance (by decide +kernel) (pa_cons (pv 0) (pa_cons (pe_bltn (v := .ty "tuple") rfl T.b_tuple (by decide +kernel) rfl) pa_nil))))) (pw_or1 (pt_cmpA (o_ne hu) (pe_callB (b_len) rfl T.b_len (by decide +kernel) (pa_cons (pv 0) pa_nil)) pe_int (nomark _))))) (pss_one (ps_ret pe_bl)) pss_nil)
      (pss_cons (ps_if (PW.pt (pw_or (pt_not (pt_tru (pe_callA G__law_integer (Room.mono hr (by decide)) T.n__law_integer tk (pa_cons (pe_ix ix_seq (pv 0) pe_int (fun _ _ => rfl)) pa_nil)))) (pw_or1 (pt_not (pt_tru (pe_callA G__law_integer (Room.mono hr (by decide)) T.n__law_integer tk (pa_cons (pe_ix ix_seq (pv 0) pe_int (fun _ _ => rfl)) pa_nil))))))) (pss_one (ps_ret pe_bl)) pss_nil)
      (pss_one (ps_ret (pe_and (pe_cmpR op_le pe_int (pe_ix ix_seq (pv 0) pe_int (fun _ _ => rfl)) (nomark _)) (pe_and (pe_cmpR op_lt (pe_ix ix_seq (pv 0) pe_int (fun _ _ => rfl)) (pv 1) (nomark _)) (pe_and (pe_cmpR op_le pe_int (pe_ix ix_seq (pv 0) pe_int (fun _ _ => rfl)) (nomark _)) (pe_one (pe_cmpR op_le (pe_ix ix_seq (pv 0) pe_int (fun _ _ => rfl)) (pv 2) (nomark _)))))))))), ?_⟩
  show (_ : Ends → L2.St → Hp → Prop) _ [some _, some _, some _] _
  try dsimp only [L2H.cxH, cxOf]
  walk_at "w"
  refine ⟨_, rfl, ?_⟩
  walk_at "w"
  refine ⟨_, rfl, ?_⟩
  walk_at "w"
  rw [decide_eq_true g1]
  exact k
/-! ### the marks of pairs -/
structure MkOk (n : Int) (rows : List (List Int)) (bs : List Bool) : Prop where
  len : bs.length = (n + 1).toNat
  at_ : ∀ g : Nat, (g : Int) ≤ n → (bs.getD g default = true ↔ ∃ i : Int, [i, (g : Int)] ∈ rows)
def sp__law_told_gaps (a : AD) : Sp := fun vs H Q _ => ∃ (p : Addr) (xs : List V) (m n : Int) (rows : List (List Int)), vs = [.ref p, .int m, .int n] ∧ H p = some (.lst xs) ∧ Tps H xs (rows.map fun r => r.map V.int) ∧ rows.Pairwise ascR ∧ (∀ r ∈ rows, ∃ (i g : Int), r = [i, g] ∧ 0 ≤ i ∧ i < m ∧ 0 ≤ g ∧ g ≤ n) ∧ 0 ≤ n ∧ n ≤ 60 ∧ rows.length ≤ 100000 ∧ ∀ (q : Addr) (bs : List Bool) (H' : Hp), H q = none → Kp [] H H' → H' q = some (.lst (bs.map V.bl)) → MkOk n rows bs → Q (.ref q) H'
theorem sc__law_told_gaps : FnScope ["_law_told", "_law_many", "_law_size_here", "_law_marked", "_law_k"] ["_law_told", "_law_many", "_law_size_here"] (defScope s__law_told_gaps) := ⟨rfl, rfl, rfl, by decide +kernel, rfl, by decide +kernel, by decide +kernel⟩
theorem ok__law_told_gaps {P : Program} {w : World} {K : PySem.W.Frag} {mg : Str → Option Value} {base : Heap} {a : AD} (T : Txt P K mg a) (G__law_is_pair : FnA P w K mg base 3 a.f__law_is_pair ["_law_told", "_law_many", "_law_size_here"] (sp__law_is_pair a)) : FnA P w K mg base 4 a.f__law_told_gaps ["_law_told", "_law_many", "_law_size_here"] (sp__law_told_gaps a) := by
  obtain ⟨fd, F, b⟩ := T.F__law_told_gaps
  refine FnA.of F sc__law_told_gaps b (fun vs H Q E h => by first | (obtain ⟨rfl, _⟩ := h; rfl) | (obtain ⟨_, rfl, _⟩ := h; rfl) | (obtain ⟨_, _, rfl, _⟩ := h; rfl) | (obtain ⟨_, _, _, rfl, _⟩ := h; rfl) | (obtain ⟨_, _, _, _, rfl, _⟩ := h; rfl) | (obtain ⟨_, _, _, _, _, rfl, _⟩ := h; rfl) | (obtain ⟨_, _, _, _, _, _, rfl, _⟩ := h; rfl) | (obtain ⟨_, _, _, _, _, _, _, rfl, _⟩ := h; rfl) | (obtain ⟨_, _, _, _, _, _, _, _, rfl, _⟩ := h; rfl) | (obtain ⟨_, _, _, _, _, _, _, _, _, rfl, _⟩ := h; rfl) | (obtain ⟨_, _, _, _, _, _, _, _, _, _, rfl, _⟩ := h; rfl) | (obtain ⟨_, _, _, _, _, _, _, _, _, _, _, rfl, _⟩ := h; rfl) | (obtain ⟨_, _, _, _, _, _, _, _, _, _, _, _, rfl, _⟩ := h; rfl) | (obtain ⟨_, _, _, _, _, _, _, _, _, _, _, _, _, rfl, _⟩ := h; rfl) | (obtain ⟨_, _, _, _, _, _, _, _, _, _, _, _, _, _, rfl, _⟩ := h; rfl) | (obtain ⟨_, _, _, _, _, _, _, _, _, _, _, _, _, _, _, rfl, _⟩ := h; rfl) | (obtain ⟨_, _, _, _, _, _, _, _, _, _, _, _, _, _, _, _, rfl, _⟩ := h; rfl) | (obtain ⟨_, _, _, _, _, _, _, _, _, _, _, _, _, _, _, _, _, rfl, _⟩ := h; rfl) | (obtain ⟨_, _, _, _, _, _, _, _, _, _, _, _, _, _, _, _, _, _, rfl, _⟩ := h; rfl) | (obtain ⟨_, _, _, _, _, _, _, _, _, _, _, _, _, _, _, _, _, _, _, rfl, _⟩ := h; rfl) | (obtain ⟨_, _, _, _, _, _, _, _, _, _, _, _, _, _, _, _, _, _, _, _, rfl, _⟩ := h; rfl) | (obtain ⟨_, _, _, _, _, _, _, _, _, _, _, _, _, _, _, _, _, _, _, _, _, rfl, _⟩ := h; rfl) | (obtain ⟨_, _, _, _, _, _, _, _, _, _, _, _, _, _, _, _, _, _, _, _, _, _, rfl, _⟩ := h; rfl) | (obtain ⟨_, _, _, _, _, _, _, _, _, _, _, _, _, _, _, _, _, _, _, _, _, _, _, rfl, _⟩ := h; rfl)) (fun cdv A outer s H vs Q E hr tk pz h => ?_)
  have hu := hr.units
  have hrH := L2H.roomH_of hr
  obtain ⟨p, xs, m, n, rows, rfl, hp, hT, hasc, hin, n0, n1, hrl, k⟩ := h
  refine ⟨_, (pss_cons (ps_set (i := 3) sc__law_told_gaps.nd rfl (Or.inl rfl) (pe_op o_mul (pe_lst (pa_cons pe_bl pa_nil)) (pe_op o_add (pv 2) pe_int)))
      (pss_cons (ps_if (pt_not (pt_tru (pe_callB (call_isi) rfl T.b_isinstance (by decide +kernel) (pa_cons (pv 0) (pa_cons (pe_bltn (v := .ty "list") rfl T.b_list (by decide +kernel) rfl) pa_nil))))) (pss_one (ps_ret pe_non)) pss_nil)
      (pss_cons (ps_for pz rfl (pi_range1 rfl T.b_range (pa_cons (pe_callB (b_len) rfl T.b_len (by decide +kernel) (pa_cons (pv 0) pa_nil)) pa_nil)) (pg_name (i := 4) sc__law_told_gaps.nd rfl (Or.inl rfl))
      (pss_cons (ps_if (pt_not (pt_tru (pe_callA G__law_is_pair (Room.mono hr (by decide)) T.n__law_is_pair tk (pa_cons (pe_ix ix_seq (pv 0) (pv 4) (fun _ _ => rfl)) (pa_cons (pv 1) (pa_cons (pv 2) pa_nil)))))) (pss_one (ps_ret pe_non)) pss_nil)
      (pss_cons (ps_if (PW.pt (pw_and (pt_cmpA op_gt (pv 4) pe_int (nomark _)) (pw_and1 (pt_cmpA (op_leT (hu0 hu)) (pe_tup (pa_cons (pe_ix ix_seq (pe_ix ix_seq (pv 0) (pv 4) (fun _ _ => rfl)) pe_int (fun _ _ => rfl)) (pa_cons (pe_ix ix_seq (pe_ix ix_seq (pv 0) (pv 4) (fun _ _ => rfl)) pe_int (fun _ _ => rfl)) pa_nil))) (pe_tup (pa_cons (pe_ix ix_seq (pe_ix ix_seq (pv 0) (pe_op op_sub (pv 4) pe_int) (fun _ _ => rfl)) pe_int (fun _ _ => rfl)) (pa_cons (pe_ix ix_seq (pe_ix ix_seq (pv 0) (pe_op op_sub (pv 4) pe_int) (fun _ _ => rfl)) pe_int (fun _ _ => rfl)) pa_nil))) (nomark _))))) (pss_one (ps_ret pe_non)) pss_nil)
      (pss_one (ps_asg pe_bl (pg_sub (pv 3) (pe_ix ix_seq (pe_ix ix_seq (pv 0) (pv 4) (fun _ _ => rfl)) pe_int (fun _ _ => rfl)) set_list))))))
      (pss_one (ps_ret (pv 3)))))), ?_⟩
  show (_ : Ends → L2.St → Hp → Prop) _ [some _, some _, some _, none, none] _
  try dsimp only [L2H.cxH, cxOf]
  have hxl := hT.len
  rw [List.length_map] at hxl
  walk_at "w"
  intro z hz
  walk_at "w"
  intro q hq
  have hq0 := upd_nil hq
  have k1 := (Kp.refl.new (ms := []) (o := .lst [.bl false]) hz).new (o := .lst ((List.replicate (n + 1).toNat false).map V.bl)) hq
  have hq1 : upd (upd H z (.lst [.bl false])) q (.lst ((List.replicate (n + 1).toNat false).map V.bl)) q = _ := upd_same
  generalize upd (upd H z (.lst [.bl false])) q (.lst ((List.replicate (n + 1).toNat false).map V.bl)) = H1 at k1 hq1 ⊢
  have hp1 := k1.at0 hp
  clear hq hz
  have m0 : MkOk n (rows.take 0) (List.replicate (n + 1).toNat false) := ⟨by simp, fun g hg => by
    rw [List.getD_eq_getElem?_getD, List.getElem?_replicate, if_pos (by omega)]
    simp⟩
  walk_at "w"
  refine w_rng1 (n := (xs.length : Int)) (by omega) (by omega) (fun i σ' H' => ∃ (z : Option V) (bs : List Bool), σ' = [some (.ref p), some (.int m), some (.int n), some (.ref q), z] ∧ Kp [] H H' ∧ H' q = some (.lst (bs.map V.bl)) ∧ MkOk n (rows.take i) bs) ⟨_, _, rfl, k1, hq1, m0⟩ ?_ ?_
  · clear hq1 hp1 k1 m0 H1
    rintro i σ' H1 hi ⟨z, bs, rfl, k1, hq1, hm⟩
    have hir : i < rows.length := by omega
    have hp1 := k1.at0 hp
    have hu : rows[i]? = some (rows.getD i default) := by simp [List.getD, List.getElem?_eq_getElem hir]
    obtain ⟨x, g, erow, x0, x1, g0, g1⟩ := hin _ (List.mem_of_getElem? hu)
    obtain ⟨a1, e1, t1⟩ := (hT.kp0 k1).get (show (rows.map fun r => r.map V.int)[i]? = some ((rows.getD i default).map V.int) by rw [List.getElem?_map, hu]; rfl)
    have hmore : rows.take (i + 1) = rows.take i ++ [rows.getD i default] := take_snoc hu
    rw [erow] at t1 hmore
    have t1 : H1 a1 = some (.tup [.int x, .int g]) := t1
    have e1' : xs[(i : Int).toNat]? = some (.ref a1) := by rw [Int.toNat_natCast]; exact e1
    have hbl := hm.len
    have hset : ∀ j : Nat, (j : Int) ≤ n → ((bs.set g.toNat true).getD j default = true ↔ ∃ y : Int, [y, (j : Int)] ∈ rows.take (i + 1)) := fun j hj => by
      rw [hmore]
      by_cases c : g.toNat = j
      · rw [← c, getD_set_eq (by omega)]
        refine ⟨fun _ => ⟨x, List.mem_append.mpr (.inr ?_)⟩, fun _ => rfl⟩
        rw [show ((g.toNat : Nat) : Int) = g by omega]
        exact List.mem_singleton.mpr rfl
      · rw [getD_set_ne c, hm.at_ j hj]
        constructor
        · rintro ⟨y, hy⟩
          exact ⟨y, List.mem_append.mpr (.inl hy)⟩
        · rintro ⟨y, hy⟩
          rcases List.mem_append.mp hy with w | w
          · exact ⟨y, w⟩
          · have := List.mem_singleton.mp w
            simp only [List.cons.injEq, and_true] at this
            omega
    have hm' : MkOk n (rows.take (i + 1)) (bs.set g.toNat true) := ⟨by rw [List.length_set]; exact hbl, hset⟩
    clear hset
    have set_ : ∀ H', Kp [] H1 H' → H' q = some (.lst (bs.map V.bl)) → ∃ (z : Option V) (bs' : List Bool), [some (V.ref p), some (.int m), some (.int n), some (.ref q), some (.int (i : Int))] = [some (V.ref p), some (.int m), some (.int n), some (.ref q), z] ∧ Kp [] H (upd H' q (.lst ((bs.set g.toNat true).map V.bl))) ∧ upd H' q (.lst ((bs.set g.toNat true).map V.bl)) q = some (.lst (bs'.map V.bl)) ∧ MkOk n (rows.take (i + 1)) bs' := fun H' k' hq' => ⟨_, _, rfl, (k1.trans0 k').own hq0, upd_same, hm'⟩
    walk_at "w"
    refine ⟨a1, x, g, m, n, rfl, t1, x0, x1, g0, g1, ?_⟩
    walk_at "w"
    refine w_ite (fun c => ?_) (fun c => ?_)
    · have hv : rows[i - 1]? = some (rows.getD (i - 1) default) := by simp [List.getD, List.getElem?_eq_getElem (show i - 1 < rows.length by omega)]
      obtain ⟨a2, e2, t2⟩ := (hT.kp0 k1).get (show (rows.map fun r => r.map V.int)[i - 1]? = some ((rows.getD (i - 1) default).map V.int) by rw [List.getElem?_map, hv]; rfl)
      obtain ⟨c1, d1, c2, d2, er1, er2, hlt⟩ := List.pairwise_iff_getElem.mp hasc (i - 1) i (by omega) (by omega) (by omega)
      have hr1 : rows.getD (i - 1) default = rows[i - 1] := by rw [List.getD_eq_getElem?_getD, List.getElem?_eq_getElem (show i - 1 < rows.length by omega)]; rfl
      have hr2 : rows.getD i default = rows[i] := by rw [List.getD_eq_getElem?_getD, List.getElem?_eq_getElem hir]; rfl
      rw [hr1, er1] at t2
      have t2 : H1 a2 = some (.tup [.int c1, .int d1]) := t2
      have e2' : xs[((i : Int) - 1).toNat]? = some (.ref a2) := by rw [show ((i : Int) - 1).toNat = i - 1 by omega]; exact e2
      rw [hr2, er2] at erow
      simp only [List.cons.injEq, and_true] at erow
      obtain ⟨rfl, rfl⟩ := erow
      walk_at "w"
      intro y1 hy1
      walk_at "w"
      intro y2 hy2
      have k3 := (Kp.refl.new (ms := []) (o := .tup [.int c2, .int d2]) hy1).new (o := .tup [.int c1, .int d1]) hy2
      walk_at "w"
      exact set_ _ k3 (k3.at0 hq1)
    · walk_at "w"
      exact set_ H1 Kp.refl hq1
  · rintro σ' H' ⟨z, bs, rfl, k2, hq2, hm⟩
    rw [Int.toNat_natCast, hxl, List.take_length] at hm
    walk_at "w"
    exact k q bs H' hq0 k2 hq2 hm
/-! ### complete logs -/
theorem out_nil {n : Int} (n0 : 0 ≤ n) (n1 : n ≤ 60) {us : List Int} (h : Onc n us) (hc : Cmp n us) : allIn n (runS (s0 n) us).2.2 := fun v v1 v2 => by
  rw [h.flag n0 n1 v v1 v2]
  have := once_cnt v v1 us h.1 h.2
  have := hc v v1 v2
  exact decide_eq_false (by omega)
theorem lateQ_len (n : Int) (log : List Int) (k : Nat) : (lateQ n log k).length ≤ 2 * k := by
  have h := lateP_len n log k
  rw [lateP_int, List.length_map] at h
  exact h
theorem marks_all {n : Int} (n0 : 0 ≤ n) (n1 : n ≤ 60) {us : List Int} (h : Onc n us) (hc : Cmp n us) {bs : List Bool} (hm : MkOk n (lateQ n us us.length) bs) {g : Nat} (hg : (g : Int) ≤ n) : (bs.getD g default = true ↔ stateOf (runS (s0 n) us).1 (runS (s0 n) us).2.1 (g : Int) ≠ ("joined" : Str)) := by
  rw [hm.at_ g hg, ← late_iff n0 n1 h hc hg, pairs_iff]
  constructor
  · rintro ⟨i, hi⟩
    obtain ⟨k, y, e, _⟩ := (rows_in n0 n1 h us.length (Nat.le_refl _)).2 _ hi
    simp only [List.cons.injEq, and_true] at e
    exact ⟨k, by rw [← e.1]; exact hi⟩
  · rintro ⟨i, hi⟩
    exact ⟨_, hi⟩
def sp__law_complete (a : AD) : Sp := fun vs H Q _ => ∃ (p : Addr) (n : Int) (us : List Int), vs = [.int n, .ref p] ∧ 0 ≤ n ∧ n ≤ 60 ∧ H p = some (.lst (us.map V.int)) ∧ Onc n us ∧ Cmp n us ∧ us.length ≤ 1000 ∧ ∀ H', Kp [] H H' → Q (.bl true) H'
theorem sc__law_complete : FnScope ["_law_size_here", "_law_log_here", "_law_states_here", "_law_handed", "_law_marked", "_law_gap", "_law_net"] ["_law_size_here", "_law_log_here"] (defScope s__law_complete) := ⟨rfl, rfl, rfl, by decide +kernel, rfl, by decide +kernel, by decide +kernel⟩
theorem ok__law_complete {P : Program} {w : World} {K : PySem.W.Frag} {mg : Str → Option Value} {base : Heap} {a : AD} (T : Txt P K mg a) (G__law_states : FnA P w K mg base 2 a.f__law_states ["_law_size_here", "_law_book"] (sp__law_states a)) (G__law_after : FnA P w K mg base 3 a.f__law_after ["_law_size_here", "_law_log_here"] (sp__law_after a)) (G__law_told_gaps : FnA P w K mg base 4 a.f__law_told_gaps ["_law_told", "_law_many", "_law_size_here"] (sp__law_told_gaps a)) (G_late_writes : FnA P w K mg base 5 a.f_late_writes ["size", "log"] (sp_late_writes a)) (G_replay : FnA P w K mg base 5 a.f_replay ["size", "log"] (sp_replay a)) (G__law_texts : FnA P w K mg base 2 a.f__law_texts ["_law_told", "_law_due"] (sp__law_texts a)) (G_gap_states : FnA P w K mg base 5 a.f_gap_states ["links"] (sp_gap_states a)) (G_is_complete : FnA P w K mg base 6 a.f_is_complete ["size", "log"] (sp_is_complete a)) (G_Links_is_whole : FnA P w K mg base 3 a.f_Links_is_whole ["self"] (sp_Links_is_whole a)) : FnA P w K mg base 7 a.f__law_complete ["_law_size_here", "_law_log_here"] (sp__law_complete a) := by
  obtain ⟨fd, F, b⟩ := T.F__law_complete
  refine FnA.of F sc__law_complete b (fun vs H Q E h => by first | (obtain ⟨rfl, _⟩ := h; rfl) | (obtain ⟨_, rfl, _⟩ := h; rfl) | (obtain ⟨_, _, rfl, _⟩ := h; rfl) | (obtain ⟨_, _, _, rfl, _⟩ := h; rfl) | (obtain ⟨_, _, _, _, rfl, _⟩ := h; rfl) | (obtain ⟨_, _, _, _, _, rfl, _⟩ := h; rfl) | (obtain ⟨_, _, _, _, _, _, rfl, _⟩ := h; rfl) | (obtain ⟨_, _, _, _, _, _, _, rfl, _⟩ := h; rfl) | (obtain ⟨_, _, _, _, _, _, _, _, rfl, _⟩ := h; rfl) | (obtain ⟨_, _, _, _, _, _, _, _, _, rfl, _⟩ := h; rfl) | (obtain ⟨_, _, _, _, _, _, _, _, _, _, rfl, _⟩ := h; rfl) | (obtain ⟨_, _, _, _, _, _, _, _, _, _, _, rfl, _⟩ := h; rfl) | (obtain ⟨_, _, _, _, _, _, _, _, _, _, _, _, rfl, _⟩ := h; rfl) | (obtain ⟨_, _, _, _, _, _, _, _, _, _, _, _, _, rfl, _⟩ := h; rfl) | (obtain ⟨_, _, _, _, _, _, _, _, _, _, _, _, _, _, rfl, _⟩ := h; rfl) | (obtain ⟨_, _, _, _, _, _, _, _, _, _, _, _, _, _, _, rfl, _⟩ := h; rfl) | (obtain ⟨_, _, _, _, _, _, _, _, _, _, _, _, _, _, _, _, rfl, _⟩ := h; rfl) | (obtain ⟨_, _, _, _, _, _, _, _, _, _, _, _, _, _, _, _, _, rfl, _⟩ := h; rfl) | (obtain ⟨_, _, _, _, _, _, _, _, _, _, _, _, _, _, _, _, _, _, rfl, _⟩ := h; rfl) | (obtain ⟨_, _, _, _, _, _, _, _, _, _, _, _, _, _, _, _, _, _, _, rfl, _⟩ := h; rfl) | (obtain ⟨_, _, _, _, _, _, _, _, _, _, _, _, _, _, _, _, _, _, _, _, rfl, _⟩ := h; rfl) | (obtain ⟨_, _, _, _, _, _, _, _, _, _, _, _, _, _, _, _, _, _, _, _, _, rfl, _⟩ := h; rfl) | (obtain ⟨_, _, _, _, _, _, _, _, _, _, _, _, _, _, _, _, _, _, _, _, _, _, rfl, _⟩ := h; rfl) | (obtain ⟨_, _, _, _, _, _, _, _, _, _, _, _, _, _, _, _, _, _, _, _, _, _, _, rfl, _⟩ := h; rfl)) (fun cdv A outer s H vs Q E hr tk pz h => ?_)
  have hu := hr.units
  have hrH := L2H.roomH_of hr
  obtain ⟨p, n, us, rfl, n0, n1, hp, hon, hcm, hul, k⟩ := h
  refine ⟨_, (pss_cons (ps_set (i := 2) sc__law_complete.nd rfl (Or.inl rfl) (pe_callA G__law_states (Room.mono hr (by decide)) T.n__law_states tk (pa_cons (pv 0) (pa_cons (pe_callA G__law_after (Room.mono hr (by decide)) T.n__law_after tk (pa_cons (pv 0) (pa_cons (pv 1) pa_nil))) pa_nil))))
      (pss_cons (ps_set (i := 3) sc__law_complete.nd rfl (Or.inl rfl) (pe_callTy b_list rfl T.b_list (by decide +kernel) (pa_cons (pv 1) pa_nil)))
      (pss_cons (ps_set (i := 4) sc__law_complete.nd rfl (Or.inl rfl) (pe_callA G__law_told_gaps (Room.mono hr (by decide)) T.n__law_told_gaps tk (pa_cons (pe_callA G_late_writes (Room.mono hr (by decide)) T.n_late_writes tk (pa_cons (pv 0) (pa_cons (pv 3) pa_nil))) (pa_cons (pe_callB (b_len) rfl T.b_len (by decide +kernel) (pa_cons (pv 1) pa_nil)) (pa_cons (pv 0) pa_nil)))))
      (pss_cons (ps_if (PW.pt (pw_or (pt_cmpA o_isN (pv 4) pe_non (nomark _)) (pw_or1 (pt_cmpA (o_ne hu) (pv 3) (pv 1) (nomark _))))) (pss_one (ps_ret pe_bl)) pss_nil)
      (pss_cons (ps_for pz rfl (pi_range1 rfl T.b_range (pa_cons (pe_op o_add (pv 0) pe_int) pa_nil)) (pg_name (i := 5) sc__law_complete.nd rfl (Or.inl rfl))
      (pss_one (ps_if (pt_cmpA (o_eq hu) (pe_ix ix_seq (pv 4) (pv 5) (fun _ _ => rfl)) (pe_cmpR (o_eq hu) (pe_ix ix_seq (pv 2) (pv 5) (fun _ _ => rfl)) pe_str (nomark _)) (nomark _)) (pss_one (ps_ret pe_bl)) pss_nil)))
      (pss_cons (ps_set (i := 6) sc__law_complete.nd rfl (Or.inl rfl) (pe_callA G_replay (Room.mono hr (by decide)) T.n_replay tk (pa_cons (pv 0) (pa_cons (pv 3) pa_nil))))
      (pss_cons (ps_if (PW.pt (pw_or (pt_not (pt_tru (pe_callA G__law_texts (Room.mono hr (by decide)) T.n__law_texts tk (pa_cons (pe_callA G_gap_states (Room.mono hr (by decide)) T.n_gap_states tk (pa_cons (pv 6) pa_nil)) (pa_cons (pv 2) pa_nil))))) (pw_or1 (pt_cmpA (o_ne hu) (pv 3) (pv 1) (nomark _))))) (pss_one (ps_ret pe_bl)) pss_nil)
      (pss_cons (ps_if (pt_cmpA o_notB (pe_callA G_is_complete (Room.mono hr (by decide)) T.n_is_complete tk (pa_cons (pv 0) (pa_cons (pv 3) pa_nil))) pe_bl (nomark _)) (pss_one (ps_ret pe_bl)) pss_nil)
      (pss_cons (ps_if (pt_cmpA op_in_seq pe_bl (pv 4) (by rfl)) (pss_one (ps_ret (pe_cmpR o_isB (pe_methS0 (pl := _) G_Links_is_whole (Room.mono hr (by decide)) T.cl_Links T.me_Links_is_whole tk (pv 6)) pe_bl (nomark _)))) pss_nil)
      (pss_one (ps_ret (pe_cmpR o_isB (pe_methS0 (pl := _) G_Links_is_whole (Room.mono hr (by decide)) T.cl_Links T.me_Links_is_whole tk (pv 6)) pe_bl (nomark _))))))))))))), ?_⟩
  show (_ : Ends → L2.St → Hp → Prop) _ [some _, some _, none, none, none, none, none] _
  try dsimp only [L2H.cxH, cxOf]
  have W := hon.wf n0 n1
  have hql := lateQ_len n us us.length
  walk_at "w"
  refine ⟨p, n, us, rfl, n0, n1, hp, hon, hul, fun w l r g st H1 _ _ _ _ k1 hW hst => ?_⟩
  have hp1 := k1.at0 hp
  walk_at "w"
  refine ⟨w, l, r, g, n, _, st, rfl, hW, W, fun S H2 hS k2 hS2 => ?_⟩
  have hp2 := k2.at0 hp1
  have k02 := k1.trans0 k2
  clear hp1 hW k1 k2 hS
  walk_at "w"
  intro m hm
  have km := Kp.refl.new (ms := []) (o := .lst (us.map V.int)) hm
  have hm3 : upd H2 m (.lst (us.map V.int)) m = some (.lst (us.map V.int)) := upd_same
  have hp3 := km.at0 hp2
  have hS3 := km.at0 hS2
  have k03 := k02.trans0 km
  generalize upd H2 m (.lst (us.map V.int)) = H3 at hm3 hp3 hS3 k03 ⊢
  clear hp2 hS2 k02 km hm
  walk_at "w"
  refine ⟨n, m, us, rfl, hm3, by omega, once_ok n0 n1 hon fun t ys H4 ht k4 ht4 hTt => ?_⟩
  rw [lateP_int] at hTt
  have hm4 := k4.at0 hm3
  have hp4 := k4.at0 hp3
  have hS4 := k4.at0 hS3
  have k04 := k03.trans0 k4
  clear hm3 hp3 hS3 k03 k4 ht
  obtain ⟨ra, rb⟩ := rows_in n0 n1 hon us.length (Nat.le_refl _)
  walk_at "w"
  refine ⟨t, ys, _, n, lateQ n us us.length, rfl, ht4, hTt, ra, fun r hr => by
    obtain ⟨i, g, e, h1, h2⟩ := rb r hr
    exact ⟨_, g, e, by omega, by omega, h2⟩, n0, n1, by omega, fun q bs H5 hq k5 hq5 hmk => ?_⟩
  have hm5 := k5.at0 hm4
  have hp5 := k5.at0 hp4
  have hS5 := k5.at0 hS4
  have k05 := k04.trans0 k5
  clear hm4 hp4 hS4 k04 k5 hq ht4 hTt
  walk_at "w"
  have mj := fun {g : Nat} (hg : (g : Int) ≤ n) => marks_all n0 n1 hon hcm hmk hg
  have hbl := hmk.len
  have hsl := statesOf_len n (runS (s0 n) us).1 (runS (s0 n) us).2.1
  refine w_rng1 (n := n + 1) (by omega) (by omega) (fun i σ' H' => ∃ (z6 : Option V), H' = H5 ∧ σ' = [some (.int n), some (.ref p), some (.ref S), some (.ref m), some (.ref q), z6, none]) ⟨_, rfl, rfl⟩ ?_ ?_
  · rintro i σ' H' hi ⟨z6, rfl, rfl⟩
    have hgs : (statesOf n (runS (s0 n) us).1 (runS (s0 n) us).2.1).getD (i : Int).toNat default = stateOf (runS (s0 n) us).1 (runS (s0 n) us).2.1 (i : Int) := by
      rw [Int.toNat_natCast, List.getD_eq_getElem?_getD, statesOf_get (by omega)]; rfl
    have hb := mj (g := i) (by omega)
    walk_at "w"
    rw [hgs, Int.toNat_natCast]
    refine w_iteF ?_ ?_
    · intro z
      by_cases c : stateOf (runS (s0 n) us).1 (runS (s0 n) us).2.1 (i : Int) = ("joined" : Str)
      · rw [decide_eq_true c] at z
        exact hb.mp z c
      · rw [decide_eq_false c] at z
        have := hb.mpr c
        rw [z] at this; cases this
    walk_at "w"
    exact ⟨_, rfl, rfl⟩
  · rintro σ' H' ⟨z6, rfl, rfl⟩
    walk_at "w"
    refine ⟨n, m, us, rfl, hm5, by omega, log_ok n0 n1 (hon.ok n0 n1) fun x l r f H6 hx _ _ _ hK k6 => ?_⟩
    have hm6 := k6.at0 hm5
    have hp6 := k6.at0 hp5
    have hS6 := k6.at0 hS5
    have hq6 := k6.at0 hq5
    have k06 := k05.trans0 k6
    clear hm5 hp5 hS5 hq5 k05 k6 hx
    walk_at "w"
    refine ⟨x, l, r, f, n, _, _, _, rfl, hK.obj W, fun T H7 hT k7 hT7 => ?_⟩
    rw [states_app W] at hT7
    have hm7 := k7.at0 hm6
    have hp7 := k7.at0 hp6
    have hS7 := k7.at0 hS6
    have hq7 := k7.at0 hq6
    have hK7 := hK.kp0 k7
    have k07 := k06.trans0 k7
    clear hm6 hp6 hS6 hq6 k06 k7 hT hK
    walk_at "w"
    refine ⟨T, S, _, rfl, hT7, hS7, by omega, ?_⟩
    walk_at "w"
    refine ⟨n, m, us, rfl, hm7, by omega, once_ok n0 n1 hon fun H8 k8 => ?_⟩
    rw [decide_eq_true (outL_nil.mpr (out_nil n0 n1 hon hcm))]
    have hq8 := k8.at0 hq7
    have hK8 := hK7.kp0 k8
    have k08 := k07.trans0 k8
    obtain ⟨⟨dx, hx8⟩, _⟩ := id hK8
    clear hm7 hp7 hS7 hq7 k07 k8 hK7 hT7
    have joi : (true ∈ bs) ↔ ¬allJ n (runS (s0 n) us) := by
      constructor
      · intro z hj
        obtain ⟨g, hg, e⟩ := List.getElem_of_mem z
        refine (mj (g := g) (by omega)).mp ?_ (hj (g : Int) (by omega) (by omega))
        rw [List.getD_eq_getElem?_getD, List.getElem?_eq_getElem hg, e]; rfl
      · intro z
        refine Classical.byContradiction fun y => z fun g g0 g1 => Classical.byContradiction fun w => y ?_
        have := (mj (g := g.toNat) (by omega)).mpr (by rw [show ((g.toNat : Nat) : Int) = g by omega]; exact w)
        rw [List.getD_eq_getElem?_getD, List.getElem?_eq_getElem (show g.toNat < bs.length by omega)] at this
        have this : bs[g.toNat] = true := this
        rw [← this]
        exact List.getElem_mem _
    walk_at "w"
    refine w_ite (fun c => ?_) (fun c => ?_)
    · walk_at "w"
      refine ⟨x, l, r, f, n, _, false, rfl, hK8, W, ⟨fun z => absurd z (by decide), fun z => absurd z.2 (joi.mp c)⟩, fun H9 k9 => ?_⟩
      walk_at "w"
      exact k H9 (k08.trans0 k9)
    · walk_at "w"
      refine ⟨x, l, r, f, n, _, true, rfl, hK8, W, ⟨fun _ => ⟨out_nil n0 n1 hon hcm, Classical.byContradiction fun z => c (joi.mpr z)⟩, fun _ => rfl⟩, fun H9 k9 => ?_⟩
      walk_at "w"
      exact k H9 (k08.trans0 k9)
/-! ### logs without a late write -/
def sp__law_holders (a : AD) : Sp := fun vs H Q _ => ∃ (p : Addr) (n : Int) (s : St3), vs = [.int n, .ref p] ∧ WFs n s ∧ H p = some (.lst ((statesOf n s.1 s.2.1).map V.str)) ∧ ∀ q H', H q = none → Kp [] H H' → H' q = some (.lst ((soleF n s.1 s.2.1).map V.int)) → Q (.ref q) H'
theorem sc__law_holders : FnScope ["_law_size_here", "_law_states_here", "_law_holders_here", "_law_node"] ["_law_size_here", "_law_states_here"] (defScope s__law_holders) := ⟨rfl, rfl, rfl, by decide +kernel, rfl, by decide +kernel, by decide +kernel⟩
theorem ok__law_holders {P : Program} {w : World} {K : PySem.W.Frag} {mg : Str → Option Value} {base : Heap} {a : AD} (T : Txt P K mg a) : FnA P w K mg base 2 a.f__law_holders ["_law_size_here", "_law_states_here"] (sp__law_holders a) := by
  obtain ⟨fd, F, b⟩ := T.F__law_holders
  refine FnA.of F sc__law_holders b (fun vs H Q E h => by first | (obtain ⟨rfl, _⟩ := h; rfl) | (obtain ⟨_, rfl, _⟩ := h; rfl) | (obtain ⟨_, _, rfl, _⟩ := h; rfl) | (obtain ⟨_, _, _, rfl, _⟩ := h; rfl) | (obtain ⟨_, _, _, _, rfl, _⟩ := h; rfl) | (obtain ⟨_, _, _, _, _, rfl, _⟩ := h; rfl) | (obtain ⟨_, _, _, _, _, _, rfl, _⟩ := h; rfl) | (obtain ⟨_, _, _, _, _, _, _, rfl, _⟩ := h; rfl) | (obtain ⟨_, _, _, _, _, _, _, _, rfl, _⟩ := h; rfl) | (obtain ⟨_, _, _, _, _, _, _, _, _, rfl, _⟩ := h; rfl) | (obtain ⟨_, _, _, _, _, _, _, _, _, _, rfl, _⟩ := h; rfl) | (obtain ⟨_, _, _, _, _, _, _, _, _, _, _, rfl, _⟩ := h; rfl) | (obtain ⟨_, _, _, _, _, _, _, _, _, _, _, _, rfl, _⟩ := h; rfl) | (obtain ⟨_, _, _, _, _, _, _, _, _, _, _, _, _, rfl, _⟩ := h; rfl) | (obtain ⟨_, _, _, _, _, _, _, _, _, _, _, _, _, _, rfl, _⟩ := h; rfl) | (obtain ⟨_, _, _, _, _, _, _, _, _, _, _, _, _, _, _, rfl, _⟩ := h; rfl) | (obtain ⟨_, _, _, _, _, _, _, _, _, _, _, _, _, _, _, _, rfl, _⟩ := h; rfl) | (obtain ⟨_, _, _, _, _, _, _, _, _, _, _, _, _, _, _, _, _, rfl, _⟩ := h; rfl) | (obtain ⟨_, _, _, _, _, _, _, _, _, _, _, _, _, _, _, _, _, _, rfl, _⟩ := h; rfl) | (obtain ⟨_, _, _, _, _, _, _, _, _, _, _, _, _, _, _, _, _, _, _, rfl, _⟩ := h; rfl) | (obtain ⟨_, _, _, _, _, _, _, _, _, _, _, _, _, _, _, _, _, _, _, _, rfl, _⟩ := h; rfl) | (obtain ⟨_, _, _, _, _, _, _, _, _, _, _, _, _, _, _, _, _, _, _, _, _, rfl, _⟩ := h; rfl) | (obtain ⟨_, _, _, _, _, _, _, _, _, _, _, _, _, _, _, _, _, _, _, _, _, _, rfl, _⟩ := h; rfl) | (obtain ⟨_, _, _, _, _, _, _, _, _, _, _, _, _, _, _, _, _, _, _, _, _, _, _, rfl, _⟩ := h; rfl)) (fun cdv A outer s H vs Q E hr tk pz h => ?_)
  have hu := hr.units
  have hrH := L2H.roomH_of hr
  obtain ⟨p, n, s, rfl, W, hp, k⟩ := h
  refine ⟨_, (pss_cons (ps_set (i := 2) sc__law_holders.nd rfl (Or.inl rfl) (pe_lst pa_nil))
      (pss_cons (ps_for pz rfl (pi_range2 rfl T.b_range (pa_cons pe_int (pa_cons (pe_op o_add (pv 0) pe_int) pa_nil))) (pg_name (i := 3) sc__law_holders.nd rfl (Or.inl rfl))
      (pss_one (ps_if (PW.pt (pw_or (pt_cmpA (o_eq hu) (pe_ix ix_seq (pv 1) (pe_op op_sub (pv 3) pe_int) (fun _ _ => rfl)) pe_str (nomark _)) (pw_or1 (pt_cmpA (o_eq hu) (pe_ix ix_seq (pv 1) (pv 3) (fun _ _ => rfl)) pe_str (nomark _))))) (pss_one (ps_expr (pe_bm PySem.F.plainAttrs_list PySem.F.slot_list_append PySem.F.type_list_append mt_append (pv 2) (pa_cons (pv 3) pa_nil)))) pss_nil)))
      (pss_one (ps_ret (pv 2))))), ?_⟩
  show (_ : Ends → L2.St → Hp → Prop) _ [some _, some _, none, none] _
  try dsimp only [L2H.cxH, cxOf]
  have n0 := WF.n0 W
  have n1 := WF.n1 W
  have hsl := statesOf_len n s.1 s.2.1
  walk_at "w"
  intro q hq
  have kq := Kp.refl.new (ms := []) (o := .lst []) hq
  have hq1 : upd H q (.lst []) q = some (.lst (([] : List Int).map V.int)) := upd_same
  have hp1 := kq.at0 hp
  have qp : p ≠ q := ne_of_none hp hq
  generalize upd H q (.lst []) = H1 at kq hq1 hp1 ⊢
  walk_at "w"
  refine w_rng2 (lo := 1) (n := n + 1) (by omega) (by omega) (by omega) (by omega) (fun i σ' H' => ∃ (z : Option V) (xs : List Int), σ' = [some (.int n), some (.ref p), some (.ref q), z] ∧ Kp [] H H' ∧ H' p = some (.lst ((statesOf n s.1 s.2.1).map V.str)) ∧ H' q = some (.lst (xs.map V.int)) ∧ xs = (List.range i).filterMap fun i : Nat => if stateOf s.1 s.2.1 (i : Int) = ("right" : Str) ∨ stateOf s.1 s.2.1 (1 + (i : Int)) = ("left" : Str) then some (1 + (i : Int)) else none) ⟨_, [], rfl, kq, hp1, hq1, rfl⟩ ?_ ?_
  · clear hq1 hp1 kq
    rintro i σ' H1 hi ⟨z, xs, rfl, k1, hp1, hq1, hxs⟩
    have e1 : (statesOf n s.1 s.2.1).getD (1 + (i : Int) - 1).toNat default = stateOf s.1 s.2.1 (i : Int) := by
      rw [show (1 + (i : Int) - 1).toNat = i by omega]
      exact statesOf_getD (by omega)
    have e2 : (statesOf n s.1 s.2.1).getD (1 + (i : Int)).toNat default = stateOf s.1 s.2.1 (1 + (i : Int)) := by
      rw [show (1 + (i : Int)).toNat = i + 1 by omega, statesOf_getD (by omega), show ((i + 1 : Nat) : Int) = 1 + (i : Int) by omega]
    have hxl : xs.length ≤ 60 := by
      rw [hxs]
      refine Nat.le_trans (List.length_filterMap_le _ _) ?_
      rw [List.length_range]; omega
    walk_at "w"
    rw [e1]
    have q0 : ∀ {c : Prop} [Decidable c] (hc : c ↔ (stateOf s.1 s.2.1 (i : Int) = ("right" : Str) ∨ stateOf s.1 s.2.1 (1 + (i : Int)) = ("left" : Str))), ((List.range (i + 1)).filterMap fun i : Nat => if stateOf s.1 s.2.1 (i : Int) = ("right" : Str) ∨ stateOf s.1 s.2.1 (1 + (i : Int)) = ("left" : Str) then some (1 + (i : Int)) else none) = xs ++ if c then [1 + (i : Int)] else [] := fun {c} _ hc => by
      rw [List.range_succ, List.filterMap_append, ← hxs]
      congr 1
      by_cases d : c
      · rw [if_pos d, List.filterMap_cons, if_pos (hc.mp d)]; rfl
      · rw [if_neg d, List.filterMap_cons, if_neg (fun z => d (hc.mpr z))]; rfl
    have add : (stateOf s.1 s.2.1 (i : Int) = ("right" : Str) ∨ stateOf s.1 s.2.1 (1 + (i : Int)) = ("left" : Str)) → ∃ (z' : Option V) (xs' : List Int), [some (V.int n), some (.ref p), some (.ref q), some (.int (1 + (i : Int)))] = [some (.int n), some (.ref p), some (.ref q), z'] ∧ Kp [] H (upd H1 q (.lst ((xs ++ [1 + (i : Int)]).map V.int))) ∧ upd H1 q (.lst ((xs ++ [1 + (i : Int)]).map V.int)) p = some (.lst ((statesOf n s.1 s.2.1).map V.str)) ∧ upd H1 q (.lst ((xs ++ [1 + (i : Int)]).map V.int)) q = some (.lst (xs'.map V.int)) ∧ xs' = (List.range (i + 1)).filterMap fun i : Nat => if stateOf s.1 s.2.1 (i : Int) = ("right" : Str) ∨ stateOf s.1 s.2.1 (1 + (i : Int)) = ("left" : Str) then some (1 + (i : Int)) else none := fun hc =>
      ⟨_, _, rfl, k1.own hq, upd_get qp hp1, upd_same, by rw [q0 (c := True) ⟨fun _ => hc, fun _ => trivial⟩, if_pos trivial]⟩
    refine w_ite (fun c1 => ?_) (fun c1 => ?_)
    · walk_at "w"
      exact add (.inl c1)
    · walk_at "w"
      rw [e2]
      refine w_ite (fun c2 => ?_) (fun c2 => ?_)
      · walk_at "w"
        exact add (.inr c2)
      · walk_at "w"
        exact ⟨_, xs, rfl, k1, hp1, hq1, by rw [q0 (c := False) ⟨fun z => z.elim, fun z => z.elim c1 c2⟩, if_neg (fun z => z), List.append_nil]⟩
  · rintro σ' H1 ⟨z, xs, rfl, k1, hp1, hq1, hxs⟩
    rw [show (n + 1 - 1).toNat = n.toNat by omega] at hxs
    subst hxs
    walk_at "w"
    exact k q H1 hq k1 hq1
theorem st_right {R L : List Int} {g : Int} : stateOf R L g = ("right" : Str) ∨ ¬stateOf R L g = ("right" : Str) := Classical.em _
/-- without a late write no gap is lost, every due node is out -/
theorem calm_due {n : Int} (n0 : 0 ≤ n) (n1 : n ≤ 60) {us : List Int} (h : Onc n us) (hl : ∀ g, ¬Lv n g us) : lostL n (runS (s0 n) us) = [] ∧ (∀ v : Int, 1 ≤ v → v ≤ n → (dueP (runS (s0 n) us) v ↔ (runS (s0 n) us).2.2.getD v.toNat default = true)) := by
  have hc := fun {g : Nat} (hg : (g : Int) ≤ n) => calm_gap n0 n1 h hg (hl g)
  refine ⟨?_, fun v v1 v2 => ⟨fun z => ?_, fun z => .inl z⟩⟩
  · unfold lostL lostF
    rw [List.filterMap_eq_nil_iff]
    intro g hg
    have := List.mem_range.mp hg
    rw [if_neg (hc (g := g) (by omega)).1]
  · rcases z with z | z | z
    · exact z
    · have := (hc (g := v.toNat) (by omega)).2.2 (by rw [show ((v.toNat : Nat) : Int) = v by omega]; exact z)
      rw [h.flag n0 n1 v.toNat (by omega) (by omega)]
      exact decide_eq_true (by omega)
    · have := (hc (g := (v - 1).toNat) (by omega)).2.1 (by rw [show (((v - 1).toNat : Nat) : Int) = v - 1 by omega]; exact z)
      rw [show (v - 1).toNat + 1 = v.toNat by omega] at this
      rw [h.flag n0 n1 v.toNat (by omega) (by omega)]
      exact decide_eq_true (by omega)
theorem calm_sole {n : Int} (n0 : 0 ≤ n) (n1 : n ≤ 60) {us : List Int} (h : Onc n us) (hl : ∀ g, ¬Lv n g us) : ∀ v ∈ soleF n (runS (s0 n) us).1 (runS (s0 n) us).2.1, v ∈ outL n (runS (s0 n) us).2.2 := by
  intro v hv
  unfold soleF at hv
  obtain ⟨i, hi, e⟩ := List.mem_filterMap.mp hv
  have hi := List.mem_range.mp hi
  split at e
  · rename_i c
    cases e
    have := ((calm_due n0 n1 h hl).2 (1 + (i : Int)) (by omega) (by omega)).mp (.inr (by
      rw [show 1 + (i : Int) - 1 = (i : Int) by omega]
      exact c.symm))
    unfold outL
    refine List.mem_filterMap.mpr ⟨i, List.mem_range.mpr hi, ?_⟩
    rw [show (1 + (i : Int)).toNat = i + 1 by omega] at this
    rw [if_pos this]
  · cases e
theorem calm_debt {n : Int} (n0 : 0 ≤ n) (n1 : n ≤ 60) {us : List Int} (h : Onc n us) (hl : ∀ g, ¬Lv n g us) : debtF n (runS (s0 n) us) = ((outL n (runS (s0 n) us).2.2).length : Int) := by
  have hd := (calm_due n0 n1 h hl).2
  generalize runS (s0 n) us = s at hd
  have e : dueL n s = outL n s.2.2 := by
    unfold dueL outL
    refine fm_congr fun i hi => ?_
    have hi := List.mem_range.mp hi
    have := hd (1 + (i : Int)) (by omega) (by omega)
    rw [show (1 + (i : Int)).toNat = i + 1 by omega] at this
    by_cases c : s.2.2.getD (i + 1) default = true
    · rw [if_pos c, if_pos (this.mpr c)]
    · rw [if_neg c, if_neg (fun z => c (this.mp z))]
  unfold debtF
  rw [e]
  have key : ∀ us : List Int, (∀ v ∈ us, s.2.2.getD v.toNat default = true) → (us.map (shareF s)).sum = (us.length : Int) := by
    intro us
    induction us with
    | nil => intro _; rfl
    | cons v us ih =>
      intro h
      rw [List.map_cons, List.sum_cons, ih (fun w hw => h w (List.mem_cons_of_mem _ hw)), List.length_cons]
      unfold shareF
      rw [if_pos (h v List.mem_cons_self)]
      omega
  exact key _ fun v hv => (outL_mem hv).2.2
def sp__law_calm (a : AD) : Sp := fun vs H Q _ => ∃ (p : Addr) (n : Int) (us : List Int), vs = [.int n, .ref p] ∧ 0 ≤ n ∧ n ≤ 60 ∧ H p = some (.lst (us.map V.int)) ∧ Onc n us ∧ (∀ g, ¬Lv n g us) ∧ us.length ≤ 1000 ∧ ∀ H', Kp [] H H' → Q (.bl true) H'
theorem sc__law_calm : FnScope ["_law_size_here", "_law_log_here", "_law_book", "_law_holders_here", "_law_x", "_law_outs", "_law_node", "_law_told", "_law_net", "_law_owed"] ["_law_size_here", "_law_log_here"] (defScope s__law_calm) := ⟨rfl, rfl, rfl, by decide +kernel, rfl, by decide +kernel, by decide +kernel⟩
theorem ok__law_calm {P : Program} {w : World} {K : PySem.W.Frag} {mg : Str → Option Value} {base : Heap} {a : AD} (T : Txt P K mg a) (G__law_after : FnA P w K mg base 3 a.f__law_after ["_law_size_here", "_law_log_here"] (sp__law_after a)) (G__law_holders : FnA P w K mg base 2 a.f__law_holders ["_law_size_here", "_law_states_here"] (sp__law_holders a)) (G__law_states : FnA P w K mg base 2 a.f__law_states ["_law_size_here", "_law_book"] (sp__law_states a)) (G_late_writes : FnA P w K mg base 5 a.f_late_writes ["size", "log"] (sp_late_writes a)) (G_replay : FnA P w K mg base 5 a.f_replay ["size", "log"] (sp_replay a)) (G__law_row : FnA P w K mg base 3 a.f__law_row ["_law_told", "_law_due"] (sp__law_row a)) (G_lost_gaps : FnA P w K mg base 6 a.f_lost_gaps ["links"] (sp_lost_gaps a)) (G_sole_holders : FnA P w K mg base 6 a.f_sole_holders ["links"] (sp_sole_holders a)) (G_debt_of : FnA P w K mg base 9 a.f_debt_of ["links"] (sp_debt_of a)) (G__law_integer : FnA P w K mg base 2 a.f__law_integer ["_law_told"] (sp__law_integer a)) (G_Links_outs : FnA P w K mg base 2 a.f_Links_outs ["self"] (sp_Links_outs a)) : FnA P w K mg base 10 a.f__law_calm ["_law_size_here", "_law_log_here"] (sp__law_calm a) := by
  obtain ⟨fd, F, b⟩ := T.F__law_calm
  refine FnA.of F sc__law_calm b (fun vs H Q E h => by first | (obtain ⟨rfl, _⟩ := h; rfl) | (obtain ⟨_, rfl, _⟩ := h; rfl) | (obtain ⟨_, _, rfl, _⟩ := h; rfl) | (obtain ⟨_, _, _, rfl, _⟩ := h; rfl) | (obtain ⟨_, _, _, _, rfl, _⟩ := h; rfl) | (obtain ⟨_, _, _, _, _, rfl, _⟩ := h; rfl) | (obtain ⟨_, _, _, _, _, _, rfl, _⟩ := h; rfl) | (obtain ⟨_, _, _, _, _, _, _, rfl, _⟩ := h; rfl) | (obtain ⟨_, _, _, _, _, _, _, _, rfl, _⟩ := h; rfl) | (obtain ⟨_, _, _, _, _, _, _, _, _, rfl, _⟩ := h; rfl) | (obtain ⟨_, _, _, _, _, _, _, _, _, _, rfl, _⟩ := h; rfl) | (obtain ⟨_, _, _, _, _, _, _, _, _, _, _, rfl, _⟩ := h; rfl) | (obtain ⟨_, _, _, _, _, _, _, _, _, _, _, _, rfl, _⟩ := h; rfl) | (obtain ⟨_, _, _, _, _, _, _, _, _, _, _, _, _, rfl, _⟩ := h; rfl) | (obtain ⟨_, _, _, _, _, _, _, _, _, _, _, _, _, _, rfl, _⟩ := h; rfl) | (obtain ⟨_, _, _, _, _, _, _, _, _, _, _, _, _, _, _, rfl, _⟩ := h; rfl) | (obtain ⟨_, _, _, _, _, _, _, _, _, _, _, _, _, _, _, _, rfl, _⟩ := h; rfl) | (obtain ⟨_, _, _, _, _, _, _, _, _, _, _, _, _, _, _, _, _, rfl, _⟩ := h; rfl) | (obtain ⟨_, _, _, _, _, _, _, _, _, _, _, _, _, _, _, _, _, _, rfl, _⟩ := h; rfl) | (obtain ⟨_, _, _, _, _, _, _, _, _, _, _, _, _, _, _, _, _, _, _, rfl, _⟩ := h; rfl) | (obtain ⟨_, _, _, _, _, _, _, _, _, _, _, _, _, _, _, _, _, _, _, _, rfl, _⟩ := h; rfl) | (obtain ⟨_, _, _, _, _, _, _, _, _, _, _, _, _, _, _, _, _, _, _, _, _, rfl, _⟩ := h; rfl) | (obtain ⟨_, _, _, _, _, _, _, _, _, _, _, _, _, _, _, _, _, _, _, _, _, _, rfl, _⟩ := h; rfl) | (obtain ⟨_, _, _, _, _, _, _, _, _, _, _, _, _, _, _, _, _, _, _, _, _, _, _, rfl, _⟩ := h; rfl)) (fun cdv A outer s H vs Q E hr tk pz h => ?_)
  have hu := hr.units
  have hrH := L2H.roomH_of hr
  obtain ⟨p, n, us, rfl, n0, n1, hp, hon, hno, hul, k⟩ := h
  refine ⟨_, (pss_cons (ps_set (i := 2) sc__law_calm.nd rfl (Or.inr rfl) (pe_callA G__law_after (Room.mono hr (by decide)) T.n__law_after tk (pa_cons (pv 0) (pa_cons (pv 1) pa_nil))))
      (pss_cons (ps_set (i := 3) sc__law_calm.nd rfl (Or.inl rfl) (pe_callA G__law_holders (Room.mono hr (by decide)) T.n__law_holders tk (pa_cons (pv 0) (pa_cons (pe_callA G__law_states (Room.mono hr (by decide)) T.n__law_states tk (pa_cons (pv 0) (pa_cons (pv 2) pa_nil))) pa_nil))))
      (pss_cons (ps_setLc (i := 5) (own := [("_law_x", 4)]) (g := (gName 4)) rfl sc__law_calm.nd rfl rfl (sw_true rfl rfl rfl (by decide +kernel)) (pi_range2 rfl T.b_range (pa_cons pe_int (pa_cons (pe_op o_add (pv 0) pe_int) pa_nil))) (blkOk_by (own := [("_law_x", 4)]) (N := ["_law_size_here", "_law_log_here", "_law_book", "_law_holders_here", "_law_x", "_law_outs", "_law_node", "_law_told", "_law_net", "_law_owed"]) (sc := defScope s__law_calm) (by decide +kernel)) (fun _ _ _ _ _ => (pg_name (i := 4) sc__law_calm.nd rfl (Or.inl rfl))) (fun _ _ _ _ _ => (pts_one (pt_cmpA (show OpR _ _ (aEq K) from (o_eq hu)) (pe_ix (show IxR _ (rIx K) from ix_seq) (pe_ix (show IxR _ (rIx K) from ix_seq) (pv 2) pe_int (fun _ _ => rfl)) (pv 4) (fun _ _ => rfl)) pe_int (nomark _)))) (fun _ _ _ _ _ => (pv 4)))
      (pss_cons (ps_for pz rfl (pi_list (pv 3)) (pg_name (i := 6) sc__law_calm.nd rfl (Or.inl rfl))
      (pss_one (ps_if (pt_cmpA op_notIn_seq (pv 6) (pv 5) (by rfl)) (pss_one (ps_ret pe_bl)) pss_nil)))
      (pss_cons (ps_set (i := 7) sc__law_calm.nd rfl (Or.inl rfl) (pe_callA G_late_writes (Room.mono hr (by decide)) T.n_late_writes tk (pa_cons (pv 0) (pa_cons (pe_callTy b_list rfl T.b_list (by decide +kernel) (pa_cons (pv 1) pa_nil)) pa_nil))))
      (pss_cons (ps_if (PW.pt (pw_or (pt_not (pt_tru (pe_callB (call_isi) rfl T.b_isinstance (by decide +kernel) (pa_cons (pv 7) (pa_cons (pe_bltn (v := .ty "list") rfl T.b_list (by decide +kernel) rfl) pa_nil))))) (pw_or1 (pt_cmpA op_gt (pe_callB (b_len) rfl T.b_len (by decide +kernel) (pa_cons (pv 7) pa_nil)) pe_int (nomark _))))) (pss_one (ps_ret pe_bl)) pss_nil)
      (pss_cons (ps_set (i := 8) sc__law_calm.nd rfl (Or.inl rfl) (pe_callA G_replay (Room.mono hr (by decide)) T.n_replay tk (pa_cons (pv 0) (pa_cons (pe_callTy b_list rfl T.b_list (by decide +kernel) (pa_cons (pv 1) pa_nil)) pa_nil))))
      (pss_cons (ps_if (PW.pt (pw_or (pt_not (pt_tru (pe_callA G__law_row (Room.mono hr (by decide)) T.n__law_row tk (pa_cons (pe_callA G_lost_gaps (Room.mono hr (by decide)) T.n_lost_gaps tk (pa_cons (pv 8) pa_nil)) (pa_cons (pe_lst pa_nil) pa_nil))))) (pw_or1 (pt_not (pt_tru (pe_callA G__law_row (Room.mono hr (by decide)) T.n__law_row tk (pa_cons (pe_callA G_sole_holders (Room.mono hr (by decide)) T.n_sole_holders tk (pa_cons (pv 8) pa_nil)) (pa_cons (pv 3) pa_nil)))))))) (pss_one (ps_ret pe_bl)) pss_nil)
      (pss_cons (ps_set (i := 9) sc__law_calm.nd rfl (Or.inl rfl) (pe_callA G_debt_of (Room.mono hr (by decide)) T.n_debt_of tk (pa_cons (pv 8) pa_nil)))
      (pss_one (ps_ret (pe_and (pe_callA G__law_integer (Room.mono hr (by decide)) T.n__law_integer tk (pa_cons (pv 9) pa_nil)) (pe_and (pe_cmpR (o_eq hu) (pv 9) (pe_callB (b_len) rfl T.b_len (by decide +kernel) (pa_cons (pv 5) pa_nil)) (nomark _)) (pe_one (pe_callA G__law_row (Room.mono hr (by decide)) T.n__law_row tk (pa_cons (pe_methS0 (pl := _) G_Links_outs (Room.mono hr (by decide)) T.cl_Links T.me_Links_outs tk (pv 8)) (pa_cons (pv 5) pa_nil))))))))))))))))), ?_⟩
  show (_ : Ends → L2.St → Hp → Prop) _ [some _, some _, none, none, none, none, none, none, none, none] _
  try dsimp only [L2H.cxH, cxOf]
  have W := hon.wf n0 n1
  have hsl := statesOf_len n (runS (s0 n) us).1 (runS (s0 n) us).2.1
  have hq0 : lateQ n us us.length = [] := by
    refine Classical.byContradiction fun z => ?_
    obtain ⟨r, hr⟩ := List.exists_mem_of_ne_nil _ z
    obtain ⟨i, g, rfl, _, g0, _⟩ := (rows_in n0 n1 hon us.length (Nat.le_refl _)).2 r hr
    exact hno g.toNat (pairs_iff.mpr ⟨i, by rw [show ((g.toNat : Nat) : Int) = g by omega]; exact hr⟩)
  have hso := calm_sole n0 n1 hon hno
  have hdb := calm_debt n0 n1 hon hno
  obtain ⟨hlo, _⟩ := calm_due n0 n1 hon hno
  walk_at "w"
  refine ⟨p, n, us, rfl, n0, n1, hp, hon, hul, fun w l r g st H1 _ _ _ _ k1 hW hst => ?_⟩
  have hp1 := k1.at0 hp
  walk_at "w"
  refine ⟨w, l, r, g, n, _, st, rfl, hW, W, fun S H2 hS k2 hS2 => ?_⟩
  have hp2 := k2.at0 hp1
  have hW2 := hW.kp0 k2
  have k02 := k1.trans0 k2
  clear hp1 hW k1 k2 hS
  walk_at "w"
  refine ⟨S, n, _, rfl, W, hS2, fun O H3 hO k3 hO3 => ?_⟩
  have hp3 := k3.at0 hp2
  have hW3 := hW2.kp0 k3
  have k03 := k02.trans0 k3
  clear hp2 hW2 k02 k3 hO hS2
  have hstl := hst.len
  obtain ⟨hw3, hl3, hr3, hg3, _⟩ := id hW3
  walk_at "w"
  refine w_lcR2 (f' := V.int) (fun i : Nat => if (runS (s0 n) us).2.2.getD (i + 1) default = true then some (1 + (i : Int)) else none) (lo := 1) (n := n + 1) (by omega) (by omega) (by omega) (by omega) (by rw [sizeLine_eq]; omega) ?_ ?_
  · intro D i acc H' hD hi hk hA hlen
    have hw4 := hk.at0 hw3
    have hg4 := hk.at0 hg3
    have hfl : st.getD (1 + (i : Int)).toNat default = 1 ↔ (runS (s0 n) us).2.2.getD (i + 1) default = true := by
      rw [show (1 + (i : Int)).toNat = i + 1 by omega, hst.at_ (i + 1) (by omega) (by omega), hon.flag n0 n1 (i + 1) (by omega) (by omega), decide_eq_true_iff]
      have := once_cnt (i + 1) (by omega) us hon.1 hon.2
      omega
    walk_at "w"
    refine ⟨rfl, ?_⟩
    walk_at "w"
    refine w_ite (fun c => ?_) (fun c => ?_)
    · walk_at "w"
      exact w_keep hk hA hlen hD (by rw [if_pos (hfl.mp c)])
    · walk_at "w"
      exact w_drop hk hA (by rw [if_neg (fun z => c (hfl.mpr z))])
  intro U H4 hU k4 hU4
  rw [show (n + 1 - 1).toNat = n.toNat by omega] at hU4
  have hU4 : H4 U = some (.lst ((outL n (runS (s0 n) us).2.2).map V.int)) := hU4
  have hp4 := k4.at0 hp3
  have hO4 := k4.at0 hO3
  have k04 := k03.trans0 k4
  clear hp3 hW3 hw3 hl3 hr3 hg3 k03 k4 hU hO3 hst hstl
  have hul2 : (outL n (runS (s0 n) us).2.2).length ≤ 60 := by have := outL_len n (runS (s0 n) us).2.2; omega
  have hsol : (soleF n (runS (s0 n) us).1 (runS (s0 n) us).2.1).length ≤ 60 := by
    unfold soleF
    refine Nat.le_trans (List.length_filterMap_le _ _) ?_
    rw [List.length_range]; omega
  generalize hA : outL n (runS (s0 n) us).2.2 = A at hU4 hso hdb hul2
  generalize hB : soleF n (runS (s0 n) us).1 (runS (s0 n) us).2.1 = B at hO4 hso hsol
  walk_at "w"
  refine w_forM (us := B) (f := V.int) hO4 (fun i σ' H' => ∃ (z4 z6 : Option V), H' = H4 ∧ σ' = [some (.int n), some (.ref p), some (.ref w), some (.ref O), z4, some (.ref U), z6, none, none, none]) ⟨_, _, rfl, rfl⟩ (fun i σ' H' _ q => by obtain ⟨_, _, rfl, _⟩ := q; exact hO4) ?_ ?_
  · rintro i v σ' H' hv ⟨z4, z6, rfl, rfl⟩
    have hvm := hso v (List.mem_of_getElem? hv)
    walk_at "w"
    exact ⟨_, _, rfl, rfl⟩
  rintro σ' H' ⟨z4, z6, rfl, rfl⟩
  walk_at "w"
  intro m hm
  have km := Kp.refl.new (ms := []) (o := .lst (us.map V.int)) hm
  have hm5 : upd H' m (.lst (us.map V.int)) m = some (.lst (us.map V.int)) := upd_same
  have hp5 := km.at0 hp4
  have hO5 := km.at0 hO4
  have hU5 := km.at0 hU4
  have k05 := k04.trans0 km
  generalize upd H' m (.lst (us.map V.int)) = H5 at hm5 hp5 hO5 hU5 k05 ⊢
  clear hp4 hO4 hU4 k04 km hm
  refine ⟨n, m, us, rfl, hm5, by omega, once_ok n0 n1 hon fun t ys H6 ht k6 ht6 hTt => ?_⟩
  rw [lateP_int, hq0] at hTt
  have hyl := hTt.len
  have hy0 : ys = [] := List.length_eq_zero_iff.mp (by rw [hyl]; rfl)
  subst hy0
  have hp6 := k6.at0 hp5
  have hO6 := k6.at0 hO5
  have hU6 := k6.at0 hU5
  have k06 := k05.trans0 k6
  clear hm5 hp5 hO5 hU5 k05 k6 ht hTt
  walk_at "w"
  intro m2 hm2
  have km2 := Kp.refl.new (ms := []) (o := .lst (us.map V.int)) hm2
  have hm7 : upd H6 m2 (.lst (us.map V.int)) m2 = some (.lst (us.map V.int)) := upd_same
  have hp7 := km2.at0 hp6
  have hO7 := km2.at0 hO6
  have hU7 := km2.at0 hU6
  have k07 := k06.trans0 km2
  generalize upd H6 m2 (.lst (us.map V.int)) = H7 at hm7 hp7 hO7 hU7 k07 ⊢
  clear hp6 hO6 hU6 k06 km2 hm2 ht6
  walk_at "w"
  refine ⟨n, m2, us, rfl, hm7, by omega, log_ok n0 n1 (hon.ok n0 n1) fun x l r f H8 _ _ _ _ hK k8 => ?_⟩
  have hp8 := k8.at0 hp7
  have hO8 := k8.at0 hO7
  have hU8 := k8.at0 hU7
  have k08 := k07.trans0 k8
  clear hm7 hp7 hO7 hU7 k07 k8
  walk_at "w"
  refine ⟨x, l, r, f, n, _, _, _, rfl, hK.obj W, fun Z H9 hZ k9 hZ9 => ?_⟩
  rw [lost_app W, show lostF n (runS (s0 n) us).1 (runS (s0 n) us).2.1 = [] from hlo] at hZ9
  have hp9 := k9.at0 hp8
  have hO9 := k9.at0 hO8
  have hU9 := k9.at0 hU8
  have hK9 := hK.kp0 k9
  have k09 := k08.trans0 k9
  clear hp8 hO8 hU8 hK k08 k9 hZ
  walk_at "w"
  intro e1 he1
  have ke := Kp.refl.new (ms := []) (o := .lst []) he1
  have he10 : upd H9 e1 (.lst []) e1 = some (.lst (([] : List Int).map V.int)) := upd_same
  have hp10 := ke.at0 hp9
  have hO10 := ke.at0 hO9
  have hU10 := ke.at0 hU9
  have hZ10 := ke.at0 hZ9
  have hK10 := hK9.kp0 ke
  have k010 := k09.trans0 ke
  generalize upd H9 e1 (.lst []) = H10 at he10 hp10 hO10 hU10 hZ10 hK10 k010 ⊢
  clear hp9 hO9 hU9 hK9 k09 ke hZ9 he1
  walk_at "w"
  refine ⟨Z, e1, [], rfl, hZ10, he10, by simp, ?_⟩
  walk_at "w"
  refine ⟨x, l, r, f, n, _, _, _, rfl, hK10.obj W, fun Y H11 hY k11 hY11 => ?_⟩
  rw [sole_app W, hB] at hY11
  have hp11 := k11.at0 hp10
  have hO11 := k11.at0 hO10
  have hU11 := k11.at0 hU10
  have hK11 := hK10.kp0 k11
  have k011 := k010.trans0 k11
  clear he10 hp10 hO10 hU10 hZ10 hK10 k010 k11 hY
  walk_at "w"
  refine ⟨Y, O, B, rfl, hY11, hO11, by omega, ?_⟩
  walk_at "w"
  refine ⟨x, l, r, f, n, _, rfl, hK11, W, fun g rest z => by rw [hlo] at z; (cases z), fun _ H12 k12 => ?_⟩
  rw [hdb]
  have hU12 := k12.at0 hU11
  have hK12 := hK11.kp0 k12
  have k012 := k011.trans0 k12
  obtain ⟨⟨dx, hx12⟩, _⟩ := id hK12
  clear hp11 hO11 hU11 hK11 k011 k12
  walk_at "w"
  refine ⟨_, rfl, ?_⟩
  walk_at "w"
  refine ⟨x, l, r, f, n, _, rfl, hK12, W, fun X H13 hX k13 hX13 => ?_⟩
  rw [hA] at hX13
  have hU13 := k13.at0 hU12
  walk_at "w"
  refine ⟨X, U, A, rfl, hX13, hU13, by omega, ?_⟩
  exact k H13 (k012.trans0 k13)
/-! ### the law -/
theorem cut_front {α : Type} {xs : List α} {i : Int} (i0 : 0 ≤ i) (i1 : i ≤ xs.length) : cut xs none (some i) = xs.take i.toNat := by
  unfold cut HT.sIx
  dsimp only
  rw [if_neg (by omega), List.drop_zero, Nat.sub_zero, Nat.min_eq_left (by omega)]
def spL (K : PySem.W.Frag) : Sp := fun vs H Q E => ∃ (p : Addr) (ns : List Int), vs = [.ref p] ∧ SqL K H p (ns.map V.int) ∧ ns.length ≤ 63 ∧ (∀ H', Kp [] H H' → SqL K H' p (ns.map V.int)) ∧ ∀ H', Q (.bl true) H'
theorem sc_law : FnScope ["_law_script", "_law_box_here", "_law_size_here", "_law_log_here", "_law_clean", "_law_cut"] ["_law_script"] (defScope s_law) := ⟨rfl, rfl, rfl, by decide +kernel, rfl, by decide +kernel, by decide +kernel⟩
theorem ok_law {P : Program} {w : World} {K : PySem.W.Frag} {mg : Str → Option Value} {base : Heap} {a : AD} (T : Txt P K mg a) {fd : FuncData} (F : Fun K "law" "law" s_law a.f_law fd) (G__law_box : FnA P w K mg base 2 a.f__law_box ["_law_script"] (sp__law_box K a)) (G__law_size : FnA P w K mg base 4 a.f__law_size ["_law_box_here"] (sp__law_size a)) (G__law_log : FnA P w K mg base 5 a.f__law_log ["_law_box_here", "_law_size_here"] (sp__law_log a)) (G__law_complete : FnA P w K mg base 7 a.f__law_complete ["_law_size_here", "_law_log_here"] (sp__law_complete a)) (G__law_first_late : FnA P w K mg base 3 a.f__law_first_late ["_law_size_here", "_law_log_here"] (sp__law_first_late a)) (G__law_take : FnA P w K mg base 3 a.f__law_take ["_law_box_here", "_law_many"] (sp__law_take a)) (G__law_calm : FnA P w K mg base 10 a.f__law_calm ["_law_size_here", "_law_log_here"] (sp__law_calm a)) : FnOk P w K mg base (L2N.CX P w) 11 a.f_law fd ["_law_script"] (spL K) := by
  refine FnOk_of F sc_law (fun vs H Q E h => by first | (obtain ⟨_, rfl, _⟩ := h; rfl) | (obtain ⟨_, _, rfl, _⟩ := h; rfl)) (fun cdv A outer s H vs Q E hr tk pz h => ?_)
  have hu := hr.units
  have hrH := L2H.roomH_of hr
  obtain ⟨p, ns, rfl, hp, hlen, hkeep, k⟩ := h
  refine ⟨_, (pss_cons (ps_set (i := 1) sc_law.nd rfl (Or.inl rfl) (pe_callA G__law_box (Room.mono hr (by decide)) T.n__law_box tk (pa_cons (pv 0) pa_nil)))
      (pss_cons (ps_set (i := 2) sc_law.nd rfl (Or.inl rfl) (pe_callA G__law_size (Room.mono hr (by decide)) T.n__law_size tk (pa_cons (pv 1) pa_nil)))
      (pss_cons (ps_set (i := 3) sc_law.nd rfl (Or.inl rfl) (pe_callA G__law_log (Room.mono hr (by decide)) T.n__law_log tk (pa_cons (pv 1) (pa_cons (pv 2) pa_nil))))
      (pss_cons (ps_if (pt_not (pt_tru (pe_callA G__law_complete (Room.mono hr (by decide)) T.n__law_complete tk (pa_cons (pv 2) (pa_cons (pv 3) pa_nil))))) (pss_one (ps_ret pe_bl)) pss_nil)
      (pss_cons (ps_set (i := 4) sc_law.nd rfl (Or.inl rfl) (pe_callA G__law_first_late (Room.mono hr (by decide)) T.n__law_first_late tk (pa_cons (pv 2) (pa_cons (pv 3) pa_nil))))
      (pss_cons (ps_set (i := 5) sc_law.nd rfl (Or.inl rfl) (pe_callA G__law_take (Room.mono hr (by decide)) T.n__law_take tk (pa_cons (pv 1) (pa_cons (pe_op o_add (pv 4) pe_int) pa_nil))))
      (pss_one (ps_ret (pe_and (pe_callA G__law_calm (Room.mono hr (by decide)) T.n__law_calm tk (pa_cons (pv 2) (pa_cons (pe_slice sl_any (pv 3) po_none (po_some (pv 4))) pa_nil))) (pe_one (pe_callA G__law_calm (Room.mono hr (by decide)) T.n__law_calm tk (pa_cons (pv 2) (pa_cons (pe_slice sl_any (pv 3) po_none (po_some (pv 5))) pa_nil))))))))))))), ?_⟩
  show (_ : Ends → L2.St → Hp → Prop) _ [some _, none, none, none, none, none] _
  try dsimp only [L2H.cxH, cxOf]
  walk_at "w"
  refine ⟨p, ns, rfl, hp, fun b q H1 hb hq B1 k1 => ?_⟩
  walk_at "w"
  refine ⟨b, q, rfl, B1, fun n H2 n0 n1' B2 k2 => ?_⟩
  have n1 : n ≤ 60 := by omega
  walk_at "w"
  refine ⟨b, q, n, rfl, B2, n0, n1, fun g us H3 hg hg3 hon hcm hul B3 k3 => ?_⟩
  have gB : g ∉ [b, q] := B2.off hg
  walk_at "w"
  refine ⟨g, n, us, rfl, n0, n1, hg3, hon, hcm, by omega, fun H4 k4 => ?_⟩
  have hg4 := k4.at0 hg3
  have B4 := B3.kp k4
  clear B1 B2 B3 k1 k2 k3 k4 hg3 hg
  walk_at "w"
  refine ⟨g, n, us, rfl, n0, n1, hg4, hon, by omega, fun cl H5 k5 hcl hno => ?_⟩
  have hg5 := k5.at0 hg4
  have B5 := B4.kp k5
  walk_at "w"
  refine ⟨b, q, _, rfl, B5, by omega, by omega, fun ct H6 c0 c1 B6 k6 => ?_⟩
  have hg6 := k6 g _ hg5 gB
  clear B4 B5 hg4 hg5 k5 k6
  walk_at "w"
  rw [cut_front (by omega) (by omega), Int.toNat_natCast]
  intro t ht
  have kt := Kp.refl.new (ms := []) (o := .lst ((us.take cl).map V.int)) ht
  have ht7 := upd_same (H := H6) (a := t) (o := .lst ((us.take cl).map V.int))
  have hg7 := kt.at0 hg6
  generalize upd H6 t (.lst ((us.take cl).map V.int)) = H7 at ht7 hg7 ⊢
  clear hg6 kt ht
  refine ⟨t, n, us.take cl, rfl, n0, n1, ht7, hon.take _, hno, by rw [List.length_take]; omega, fun H8 k8 => ?_⟩
  have hg8 := k8.at0 hg7
  walk_at "w"
  rw [cut_front (by omega) (by omega)]
  intro t2 ht2
  have ht9 := upd_same (H := H8) (a := t2) (o := .lst ((us.take ct.toNat).map V.int))
  generalize upd H8 t2 (.lst ((us.take ct.toNat).map V.int)) = H9 at ht9 ⊢
  refine ⟨t2, n, us.take ct.toNat, rfl, n0, n1, ht9, hon.take _, fun g z => hno g (Lv_mono (List.take_prefix_take_left (by omega)) z), by rw [List.length_take]; omega, fun H10 k10 => ?_⟩
  exact k H10
theorem spL_ok {K : PySem.W.Frag} {H : Hp} {a : Addr} {ns : List Int} (hl : ns.length ≤ 63) (hS : SqL K H a (ns.map V.int)) : spL K [.ref a] H (fun v _ => v = .bl true) fun _ _ _ => False := ⟨a, ns, rfl, hS, hl, fun H' k => SqL.kp' hS k, fun _ => rfl⟩
/-- what the top has left -/
theorem all_mk {P : Program} {w : World} {K : PySem.W.Frag} {h : Heap} {mg : Str → Option Value} {fa : Addr} (X : K.In h) (G : h.Ns mainGlobals mg) (hfa : mg "law" = some (.ref fa))
    {f_check_size : Addr} {oc_check_size kV_check_size dc_check_size pm_check_size cd_check_size ct_check_size : Value} {od_check_size an_check_size : Option Addr} {sl_check_size : Array (Option Value)}
    {f_check_operation : Addr} {oc_check_operation kV_check_operation dc_check_operation pm_check_operation cd_check_operation ct_check_operation : Value} {od_check_operation an_check_operation : Option Addr} {sl_check_operation : Array (Option Value)}
    {f_check_log : Addr} {oc_check_log kV_check_log dc_check_log pm_check_log cd_check_log ct_check_log : Value} {od_check_log an_check_log : Option Addr} {sl_check_log : Array (Option Value)}
    {f__is_legal : Addr} {oc__is_legal kV__is_legal dc__is_legal pm__is_legal cd__is_legal ct__is_legal : Value} {od__is_legal an__is_legal : Option Addr} {sl__is_legal : Array (Option Value)}
    {f_replay : Addr} {oc_replay kV_replay dc_replay pm_replay cd_replay ct_replay : Value} {od_replay an_replay : Option Addr} {sl_replay : Array (Option Value)}
    {f_check_once : Addr} {oc_check_once kV_check_once dc_check_once pm_check_once cd_check_once ct_check_once : Value} {od_check_once an_check_once : Option Addr} {sl_check_once : Array (Option Value)}
    {f_late_gaps : Addr} {oc_late_gaps kV_late_gaps dc_late_gaps pm_late_gaps cd_late_gaps ct_late_gaps : Value} {od_late_gaps an_late_gaps : Option Addr} {sl_late_gaps : Array (Option Value)}
    {f_late_writes : Addr} {oc_late_writes kV_late_writes dc_late_writes pm_late_writes cd_late_writes ct_late_writes : Value} {od_late_writes an_late_writes : Option Addr} {sl_late_writes : Array (Option Value)}
    {f_is_complete : Addr} {oc_is_complete kV_is_complete dc_is_complete pm_is_complete cd_is_complete ct_is_complete : Value} {od_is_complete an_is_complete : Option Addr} {sl_is_complete : Array (Option Value)}
    {f_check_gap : Addr} {oc_check_gap kV_check_gap dc_check_gap pm_check_gap cd_check_gap ct_check_gap : Value} {od_check_gap an_check_gap : Option Addr} {sl_check_gap : Array (Option Value)}
    {f_left_holds : Addr} {oc_left_holds kV_left_holds dc_left_holds pm_left_holds cd_left_holds ct_left_holds : Value} {od_left_holds an_left_holds : Option Addr} {sl_left_holds : Array (Option Value)}
    {f_right_holds : Addr} {oc_right_holds kV_right_holds dc_right_holds pm_right_holds cd_right_holds ct_right_holds : Value} {od_right_holds an_right_holds : Option Addr} {sl_right_holds : Array (Option Value)}
    {f_gap_state : Addr} {oc_gap_state kV_gap_state dc_gap_state pm_gap_state cd_gap_state ct_gap_state : Value} {od_gap_state an_gap_state : Option Addr} {sl_gap_state : Array (Option Value)}
    {f_gap_states : Addr} {oc_gap_states kV_gap_states dc_gap_states pm_gap_states cd_gap_states ct_gap_states : Value} {od_gap_states an_gap_states : Option Addr} {sl_gap_states : Array (Option Value)}
    {f_lost_gaps : Addr} {oc_lost_gaps kV_lost_gaps dc_lost_gaps pm_lost_gaps cd_lost_gaps ct_lost_gaps : Value} {od_lost_gaps an_lost_gaps : Option Addr} {sl_lost_gaps : Array (Option Value)}
    {f_sole_holders : Addr} {oc_sole_holders kV_sole_holders dc_sole_holders pm_sole_holders cd_sole_holders ct_sole_holders : Value} {od_sole_holders an_sole_holders : Option Addr} {sl_sole_holders : Array (Option Value)}
    {f_check_repairable : Addr} {oc_check_repairable kV_check_repairable dc_check_repairable pm_check_repairable cd_check_repairable ct_check_repairable : Value} {od_check_repairable an_check_repairable : Option Addr} {sl_check_repairable : Array (Option Value)}
    {f_is_due : Addr} {oc_is_due kV_is_due dc_is_due pm_is_due cd_is_due ct_is_due : Value} {od_is_due an_is_due : Option Addr} {sl_is_due : Array (Option Value)}
    {f__share : Addr} {oc__share kV__share dc__share pm__share cd__share ct__share : Value} {od__share an__share : Option Addr} {sl__share : Array (Option Value)}
    {f_is_repairable : Addr} {oc_is_repairable kV_is_repairable dc_is_repairable pm_is_repairable cd_is_repairable ct_is_repairable : Value} {od_is_repairable an_is_repairable : Option Addr} {sl_is_repairable : Array (Option Value)}
    {f_due_nodes : Addr} {oc_due_nodes kV_due_nodes dc_due_nodes pm_due_nodes cd_due_nodes ct_due_nodes : Value} {od_due_nodes an_due_nodes : Option Addr} {sl_due_nodes : Array (Option Value)}
    {f_settled_debt : Addr} {oc_settled_debt kV_settled_debt dc_settled_debt pm_settled_debt cd_settled_debt ct_settled_debt : Value} {od_settled_debt an_settled_debt : Option Addr} {sl_settled_debt : Array (Option Value)}
    {f_debt_of : Addr} {oc_debt_of kV_debt_of dc_debt_of pm_debt_of cd_debt_of ct_debt_of : Value} {od_debt_of an_debt_of : Option Addr} {sl_debt_of : Array (Option Value)}
    {f__law_mixed : Addr} {oc__law_mixed kV__law_mixed dc__law_mixed pm__law_mixed cd__law_mixed ct__law_mixed : Value} {od__law_mixed an__law_mixed : Option Addr} {sl__law_mixed : Array (Option Value)}
    {f__law_box : Addr} {oc__law_box kV__law_box dc__law_box pm__law_box cd__law_box ct__law_box : Value} {od__law_box an__law_box : Option Addr} {sl__law_box : Array (Option Value)}
    {f__law_take : Addr} {oc__law_take kV__law_take dc__law_take pm__law_take cd__law_take ct__law_take : Value} {od__law_take an__law_take : Option Addr} {sl__law_take : Array (Option Value)}
    {f__law_size : Addr} {oc__law_size kV__law_size dc__law_size pm__law_size cd__law_size ct__law_size : Value} {od__law_size an__law_size : Option Addr} {sl__law_size : Array (Option Value)}
    {f__law_range : Addr} {oc__law_range kV__law_range dc__law_range pm__law_range cd__law_range ct__law_range : Value} {od__law_range an__law_range : Option Addr} {sl__law_range : Array (Option Value)}
    {f__law_start : Addr} {oc__law_start kV__law_start dc__law_start pm__law_start cd__law_start ct__law_start : Value} {od__law_start an__law_start : Option Addr} {sl__law_start : Array (Option Value)}
    {f__law_late : Addr} {oc__law_late kV__law_late dc__law_late pm__law_late cd__law_late ct__law_late : Value} {od__law_late an__law_late : Option Addr} {sl__law_late : Array (Option Value)}
    {f__law_step : Addr} {oc__law_step kV__law_step dc__law_step pm__law_step cd__law_step ct__law_step : Value} {od__law_step an__law_step : Option Addr} {sl__law_step : Array (Option Value)}
    {f__law_pattern : Addr} {oc__law_pattern kV__law_pattern dc__law_pattern pm__law_pattern cd__law_pattern ct__law_pattern : Value} {od__law_pattern an__law_pattern : Option Addr} {sl__law_pattern : Array (Option Value)}
    {f__law_log : Addr} {oc__law_log kV__law_log dc__law_log pm__law_log cd__law_log ct__law_log : Value} {od__law_log an__law_log : Option Addr} {sl__law_log : Array (Option Value)}
    {f__law_first_late : Addr} {oc__law_first_late kV__law_first_late dc__law_first_late pm__law_first_late cd__law_first_late ct__law_first_late : Value} {od__law_first_late an__law_first_late : Option Addr} {sl__law_first_late : Array (Option Value)}
    {f__law_after : Addr} {oc__law_after kV__law_after dc__law_after pm__law_after cd__law_after ct__law_after : Value} {od__law_after an__law_after : Option Addr} {sl__law_after : Array (Option Value)}
    {f__law_states : Addr} {oc__law_states kV__law_states dc__law_states pm__law_states cd__law_states ct__law_states : Value} {od__law_states an__law_states : Option Addr} {sl__law_states : Array (Option Value)}
    {f__law_integer : Addr} {oc__law_integer kV__law_integer dc__law_integer pm__law_integer cd__law_integer ct__law_integer : Value} {od__law_integer an__law_integer : Option Addr} {sl__law_integer : Array (Option Value)}
    {f__law_row : Addr} {oc__law_row kV__law_row dc__law_row pm__law_row cd__law_row ct__law_row : Value} {od__law_row an__law_row : Option Addr} {sl__law_row : Array (Option Value)}
    {f__law_texts : Addr} {oc__law_texts kV__law_texts dc__law_texts pm__law_texts cd__law_texts ct__law_texts : Value} {od__law_texts an__law_texts : Option Addr} {sl__law_texts : Array (Option Value)}
    {f__law_is_pair : Addr} {oc__law_is_pair kV__law_is_pair dc__law_is_pair pm__law_is_pair cd__law_is_pair ct__law_is_pair : Value} {od__law_is_pair an__law_is_pair : Option Addr} {sl__law_is_pair : Array (Option Value)}
    {f__law_told_gaps : Addr} {oc__law_told_gaps kV__law_told_gaps dc__law_told_gaps pm__law_told_gaps cd__law_told_gaps ct__law_told_gaps : Value} {od__law_told_gaps an__law_told_gaps : Option Addr} {sl__law_told_gaps : Array (Option Value)}
    {f__law_complete : Addr} {oc__law_complete kV__law_complete dc__law_complete pm__law_complete cd__law_complete ct__law_complete : Value} {od__law_complete an__law_complete : Option Addr} {sl__law_complete : Array (Option Value)}
    {f__law_holders : Addr} {oc__law_holders kV__law_holders dc__law_holders pm__law_holders cd__law_holders ct__law_holders : Value} {od__law_holders an__law_holders : Option Addr} {sl__law_holders : Array (Option Value)}
    {f__law_calm : Addr} {oc__law_calm kV__law_calm dc__law_calm pm__law_calm cd__law_calm ct__law_calm : Value} {od__law_calm an__law_calm : Option Addr} {sl__law_calm : Array (Option Value)}
    {f_law : Addr} {oc_law kV_law dc_law pm_law cd_law ct_law : Value} {od_law an_law : Option Addr} {sl_law : Array (Option Value)}
    {f_Links___init__ : Addr} {oc_Links___init__ kV_Links___init__ dc_Links___init__ pm_Links___init__ cd_Links___init__ ct_Links___init__ : Value} {od_Links___init__ an_Links___init__ : Option Addr} {sl_Links___init__ : Array (Option Value)}
    {f_Links_left : Addr} {oc_Links_left kV_Links_left dc_Links_left pm_Links_left cd_Links_left ct_Links_left : Value} {od_Links_left an_Links_left : Option Addr} {sl_Links_left : Array (Option Value)}
    {f_Links_right : Addr} {oc_Links_right kV_Links_right dc_Links_right pm_Links_right cd_Links_right ct_Links_right : Value} {od_Links_right an_Links_right : Option Addr} {sl_Links_right : Array (Option Value)}
    {f_Links_is_out : Addr} {oc_Links_is_out kV_Links_is_out dc_Links_is_out pm_Links_is_out cd_Links_is_out ct_Links_is_out : Value} {od_Links_is_out an_Links_is_out : Option Addr} {sl_Links_is_out : Array (Option Value)}
    {f_Links_outs : Addr} {oc_Links_outs kV_Links_outs dc_Links_outs pm_Links_outs cd_Links_outs ct_Links_outs : Value} {od_Links_outs an_Links_outs : Option Addr} {sl_Links_outs : Array (Option Value)}
    {f_Links_apply : Addr} {oc_Links_apply kV_Links_apply dc_Links_apply pm_Links_apply cd_Links_apply ct_Links_apply : Value} {od_Links_apply an_Links_apply : Option Addr} {sl_Links_apply : Array (Option Value)}
    {f_Links_apply_at : Addr} {oc_Links_apply_at kV_Links_apply_at dc_Links_apply_at pm_Links_apply_at cd_Links_apply_at ct_Links_apply_at : Value} {od_Links_apply_at an_Links_apply_at : Option Addr} {sl_Links_apply_at : Array (Option Value)}
    {f_Links_is_sound : Addr} {oc_Links_is_sound kV_Links_is_sound dc_Links_is_sound pm_Links_is_sound cd_Links_is_sound ct_Links_is_sound : Value} {od_Links_is_sound an_Links_is_sound : Option Addr} {sl_Links_is_sound : Array (Option Value)}
    {f_Links_is_whole : Addr} {oc_Links_is_whole kV_Links_is_whole dc_Links_is_whole pm_Links_is_whole cd_Links_is_whole ct_Links_is_whole : Value} {od_Links_is_whole an_Links_is_whole : Option Addr} {sl_Links_is_whole : Array (Option Value)}
    {LinkError : Addr}
    {LogError : Addr}
    {BadOperation : Addr} {i_BadOperation : Addr}
    {Illegal : Addr} {i_Illegal : Addr}
    {BadSize : Addr} {i_BadSize : Addr}
    {BadNode : Addr} {i_BadNode : Addr}
    {BadGap : Addr} {i_BadGap : Addr}
    {BadDump : Addr} {i_BadDump : Addr}
    {NotRepairable : Addr} {i_NotRepairable : Addr}
    {NotOnce : Addr} {i_NotOnce : Addr}
    {t_MOST_NODES : Tok}
    {t_MOST_DIGITS : Tok}
    {t_PARTS : Tok}
    {Links : Addr}
    {t_Links_MOST : Tok}
    (a_Links : PySem.W.nsIn K mainGlobals "Links" = some (some (.ref Links)))
    (cl_Links : Cls K Links)
    (rd_Links : ClX.CRead K Links (.type "type"))
    (mk1_Links : PySem.W.makesIn K Links = true) (mk2_Links : PySem.W.findIn K (.ref Links) "__init__" = some (some (.ref f_Links___init__))) (mk3_Links : PySem.W.isFn K (.ref f_Links___init__) = true) (mk4_Links : PySem.W.keepIn K (.ref Links) = true)
    (na_Links_size : NoAttr K Links "size")
    (na_Links__lefts : NoAttr K Links "_lefts")
    (na_Links__rights : NoAttr K Links "_rights")
    (na_Links__flags : NoAttr K Links "_flags")
    (cv_Links_MOST : PySem.W.findCls K (.ref Links) (.type "type") "MOST" = some (.val (.int 60 t_Links_MOST)))
    (l_Links___init__ : K.lookup f_Links___init__ = some ⟨oc_Links___init__, od_Links___init__, .func (PySem.W.fnOf "__init__" "Links.__init__" (defArgs s_Links___init__) (defBody s_Links___init__) (defScope s_Links___init__) .none kV_Links___init__ dc_Links___init__ pm_Links___init__ an_Links___init__ cd_Links___init__ ct_Links___init__), sl_Links___init__⟩) (c_Links___init__ : PySem.W.codeIn K cd_Links___init__ "Links.__init__" = true) (k_Links___init__ : PySem.W.keepIn K (.ref f_Links___init__) = true)
    (me1_Links_left : PySem.W.findIn K (.ref Links) "left" = some (some (.ref f_Links_left))) (me2_Links_left : PySem.W.isFn K (.ref f_Links_left) = true)
    (l_Links_left : K.lookup f_Links_left = some ⟨oc_Links_left, od_Links_left, .func (PySem.W.fnOf "left" "Links.left" (defArgs s_Links_left) (defBody s_Links_left) (defScope s_Links_left) .none kV_Links_left dc_Links_left pm_Links_left an_Links_left cd_Links_left ct_Links_left), sl_Links_left⟩) (c_Links_left : PySem.W.codeIn K cd_Links_left "Links.left" = true) (k_Links_left : PySem.W.keepIn K (.ref f_Links_left) = true)
    (me1_Links_right : PySem.W.findIn K (.ref Links) "right" = some (some (.ref f_Links_right))) (me2_Links_right : PySem.W.isFn K (.ref f_Links_right) = true)
    (l_Links_right : K.lookup f_Links_right = some ⟨oc_Links_right, od_Links_right, .func (PySem.W.fnOf "right" "Links.right" (defArgs s_Links_right) (defBody s_Links_right) (defScope s_Links_right) .none kV_Links_right dc_Links_right pm_Links_right an_Links_right cd_Links_right ct_Links_right), sl_Links_right⟩) (c_Links_right : PySem.W.codeIn K cd_Links_right "Links.right" = true) (k_Links_right : PySem.W.keepIn K (.ref f_Links_right) = true)
    (me1_Links_is_out : PySem.W.findIn K (.ref Links) "is_out" = some (some (.ref f_Links_is_out))) (me2_Links_is_out : PySem.W.isFn K (.ref f_Links_is_out) = true)
    (l_Links_is_out : K.lookup f_Links_is_out = some ⟨oc_Links_is_out, od_Links_is_out, .func (PySem.W.fnOf "is_out" "Links.is_out" (defArgs s_Links_is_out) (defBody s_Links_is_out) (defScope s_Links_is_out) .none kV_Links_is_out dc_Links_is_out pm_Links_is_out an_Links_is_out cd_Links_is_out ct_Links_is_out), sl_Links_is_out⟩) (c_Links_is_out : PySem.W.codeIn K cd_Links_is_out "Links.is_out" = true) (k_Links_is_out : PySem.W.keepIn K (.ref f_Links_is_out) = true)
    (me1_Links_outs : PySem.W.findIn K (.ref Links) "outs" = some (some (.ref f_Links_outs))) (me2_Links_outs : PySem.W.isFn K (.ref f_Links_outs) = true)
    (l_Links_outs : K.lookup f_Links_outs = some ⟨oc_Links_outs, od_Links_outs, .func (PySem.W.fnOf "outs" "Links.outs" (defArgs s_Links_outs) (defBody s_Links_outs) (defScope s_Links_outs) .none kV_Links_outs dc_Links_outs pm_Links_outs an_Links_outs cd_Links_outs ct_Links_outs), sl_Links_outs⟩) (c_Links_outs : PySem.W.codeIn K cd_Links_outs "Links.outs" = true) (k_Links_outs : PySem.W.keepIn K (.ref f_Links_outs) = true)
    (me1_Links_apply : PySem.W.findIn K (.ref Links) "apply" = some (some (.ref f_Links_apply))) (me2_Links_apply : PySem.W.isFn K (.ref f_Links_apply) = true)
    (l_Links_apply : K.lookup f_Links_apply = some ⟨oc_Links_apply, od_Links_apply, .func (PySem.W.fnOf "apply" "Links.apply" (defArgs s_Links_apply) (defBody s_Links_apply) (defScope s_Links_apply) .none kV_Links_apply dc_Links_apply pm_Links_apply an_Links_apply cd_Links_apply ct_Links_apply), sl_Links_apply⟩) (c_Links_apply : PySem.W.codeIn K cd_Links_apply "Links.apply" = true) (k_Links_apply : PySem.W.keepIn K (.ref f_Links_apply) = true)
    (me1_Links_apply_at : PySem.W.findIn K (.ref Links) "apply_at" = some (some (.ref f_Links_apply_at))) (me2_Links_apply_at : PySem.W.isFn K (.ref f_Links_apply_at) = true)
    (l_Links_apply_at : K.lookup f_Links_apply_at = some ⟨oc_Links_apply_at, od_Links_apply_at, .func (PySem.W.fnOf "apply_at" "Links.apply_at" (defArgs s_Links_apply_at) (defBody s_Links_apply_at) (defScope s_Links_apply_at) .none kV_Links_apply_at dc_Links_apply_at pm_Links_apply_at an_Links_apply_at cd_Links_apply_at ct_Links_apply_at), sl_Links_apply_at⟩) (c_Links_apply_at : PySem.W.codeIn K cd_Links_apply_at "Links.apply_at" = true) (k_Links_apply_at : PySem.W.keepIn K (.ref f_Links_apply_at) = true)
    (me1_Links_is_sound : PySem.W.findIn K (.ref Links) "is_sound" = some (some (.ref f_Links_is_sound))) (me2_Links_is_sound : PySem.W.isFn K (.ref f_Links_is_sound) = true)
    (l_Links_is_sound : K.lookup f_Links_is_sound = some ⟨oc_Links_is_sound, od_Links_is_sound, .func (PySem.W.fnOf "is_sound" "Links.is_sound" (defArgs s_Links_is_sound) (defBody s_Links_is_sound) (defScope s_Links_is_sound) .none kV_Links_is_sound dc_Links_is_sound pm_Links_is_sound an_Links_is_sound cd_Links_is_sound ct_Links_is_sound), sl_Links_is_sound⟩) (c_Links_is_sound : PySem.W.codeIn K cd_Links_is_sound "Links.is_sound" = true) (k_Links_is_sound : PySem.W.keepIn K (.ref f_Links_is_sound) = true)
    (me1_Links_is_whole : PySem.W.findIn K (.ref Links) "is_whole" = some (some (.ref f_Links_is_whole))) (me2_Links_is_whole : PySem.W.isFn K (.ref f_Links_is_whole) = true)
    (l_Links_is_whole : K.lookup f_Links_is_whole = some ⟨oc_Links_is_whole, od_Links_is_whole, .func (PySem.W.fnOf "is_whole" "Links.is_whole" (defArgs s_Links_is_whole) (defBody s_Links_is_whole) (defScope s_Links_is_whole) .none kV_Links_is_whole dc_Links_is_whole pm_Links_is_whole an_Links_is_whole cd_Links_is_whole ct_Links_is_whole), sl_Links_is_whole⟩) (c_Links_is_whole : PySem.W.codeIn K cd_Links_is_whole "Links.is_whole" = true) (k_Links_is_whole : PySem.W.keepIn K (.ref f_Links_is_whole) = true)
    (a_LinkError : PySem.W.nsIn K mainGlobals "LinkError" = some (some (.ref LinkError)))
    (a_LogError : PySem.W.nsIn K mainGlobals "LogError" = some (some (.ref LogError)))
    (a_BadOperation : PySem.W.nsIn K mainGlobals "BadOperation" = some (some (.ref BadOperation)))
    (a_Illegal : PySem.W.nsIn K mainGlobals "Illegal" = some (some (.ref Illegal)))
    (a_BadSize : PySem.W.nsIn K mainGlobals "BadSize" = some (some (.ref BadSize)))
    (a_BadNode : PySem.W.nsIn K mainGlobals "BadNode" = some (some (.ref BadNode)))
    (a_BadGap : PySem.W.nsIn K mainGlobals "BadGap" = some (some (.ref BadGap)))
    (a_BadDump : PySem.W.nsIn K mainGlobals "BadDump" = some (some (.ref BadDump)))
    (a_NotRepairable : PySem.W.nsIn K mainGlobals "NotRepairable" = some (some (.ref NotRepairable)))
    (a_NotOnce : PySem.W.nsIn K mainGlobals "NotOnce" = some (some (.ref NotOnce)))
    (d_LinkError : DC K LinkError)
    (d_LogError : DC K LogError)
    (d_BadOperation : DC K BadOperation)
    (d_Illegal : DC K Illegal)
    (d_BadSize : DC K BadSize)
    (d_BadNode : DC K BadNode)
    (d_BadGap : DC K BadGap)
    (d_BadDump : DC K BadDump)
    (d_NotRepairable : DC K NotRepairable)
    (d_NotOnce : DC K NotOnce)
    (x_BadOperation : LkX.ExcTxt P K BadOperation i_BadOperation ["operation", "index"])
    (e_BadOperation : ExcC K BadOperation ∧ XfC K BadOperation)
    (s_BadOperation_LinkError : PySem.W.subIn K (.ref BadOperation) (.ref LinkError) = some true)
    (s_BadOperation_LogError : PySem.W.subIn K (.ref BadOperation) (.ref LogError) = some true)
    (s_BadOperation_BadOperation : PySem.W.subIn K (.ref BadOperation) (.ref BadOperation) = some true)
    (s_BadOperation_Illegal : PySem.W.subIn K (.ref BadOperation) (.ref Illegal) = some false)
    (s_BadOperation_BadSize : PySem.W.subIn K (.ref BadOperation) (.ref BadSize) = some false)
    (s_BadOperation_BadNode : PySem.W.subIn K (.ref BadOperation) (.ref BadNode) = some false)
    (s_BadOperation_BadGap : PySem.W.subIn K (.ref BadOperation) (.ref BadGap) = some false)
    (s_BadOperation_BadDump : PySem.W.subIn K (.ref BadOperation) (.ref BadDump) = some false)
    (s_BadOperation_NotRepairable : PySem.W.subIn K (.ref BadOperation) (.ref NotRepairable) = some false)
    (s_BadOperation_NotOnce : PySem.W.subIn K (.ref BadOperation) (.ref NotOnce) = some false)
    (x_Illegal : LkX.ExcTxt P K Illegal i_Illegal ["operation", "index"])
    (e_Illegal : ExcC K Illegal ∧ XfC K Illegal)
    (s_Illegal_LinkError : PySem.W.subIn K (.ref Illegal) (.ref LinkError) = some true)
    (s_Illegal_LogError : PySem.W.subIn K (.ref Illegal) (.ref LogError) = some true)
    (s_Illegal_BadOperation : PySem.W.subIn K (.ref Illegal) (.ref BadOperation) = some false)
    (s_Illegal_Illegal : PySem.W.subIn K (.ref Illegal) (.ref Illegal) = some true)
    (s_Illegal_BadSize : PySem.W.subIn K (.ref Illegal) (.ref BadSize) = some false)
    (s_Illegal_BadNode : PySem.W.subIn K (.ref Illegal) (.ref BadNode) = some false)
    (s_Illegal_BadGap : PySem.W.subIn K (.ref Illegal) (.ref BadGap) = some false)
    (s_Illegal_BadDump : PySem.W.subIn K (.ref Illegal) (.ref BadDump) = some false)
    (s_Illegal_NotRepairable : PySem.W.subIn K (.ref Illegal) (.ref NotRepairable) = some false)
    (s_Illegal_NotOnce : PySem.W.subIn K (.ref Illegal) (.ref NotOnce) = some false)
    (x_BadSize : LkX.ExcTxt P K BadSize i_BadSize ["size"])
    (e_BadSize : ExcC K BadSize ∧ XfC K BadSize)
    (s_BadSize_LinkError : PySem.W.subIn K (.ref BadSize) (.ref LinkError) = some true)
    (s_BadSize_LogError : PySem.W.subIn K (.ref BadSize) (.ref LogError) = some false)
    (s_BadSize_BadOperation : PySem.W.subIn K (.ref BadSize) (.ref BadOperation) = some false)
    (s_BadSize_Illegal : PySem.W.subIn K (.ref BadSize) (.ref Illegal) = some false)
    (s_BadSize_BadSize : PySem.W.subIn K (.ref BadSize) (.ref BadSize) = some true)
    (s_BadSize_BadNode : PySem.W.subIn K (.ref BadSize) (.ref BadNode) = some false)
    (s_BadSize_BadGap : PySem.W.subIn K (.ref BadSize) (.ref BadGap) = some false)
    (s_BadSize_BadDump : PySem.W.subIn K (.ref BadSize) (.ref BadDump) = some false)
    (s_BadSize_NotRepairable : PySem.W.subIn K (.ref BadSize) (.ref NotRepairable) = some false)
    (s_BadSize_NotOnce : PySem.W.subIn K (.ref BadSize) (.ref NotOnce) = some false)
    (x_BadNode : LkX.ExcTxt P K BadNode i_BadNode ["node"])
    (e_BadNode : ExcC K BadNode ∧ XfC K BadNode)
    (s_BadNode_LinkError : PySem.W.subIn K (.ref BadNode) (.ref LinkError) = some true)
    (s_BadNode_LogError : PySem.W.subIn K (.ref BadNode) (.ref LogError) = some false)
    (s_BadNode_BadOperation : PySem.W.subIn K (.ref BadNode) (.ref BadOperation) = some false)
    (s_BadNode_Illegal : PySem.W.subIn K (.ref BadNode) (.ref Illegal) = some false)
    (s_BadNode_BadSize : PySem.W.subIn K (.ref BadNode) (.ref BadSize) = some false)
    (s_BadNode_BadNode : PySem.W.subIn K (.ref BadNode) (.ref BadNode) = some true)
    (s_BadNode_BadGap : PySem.W.subIn K (.ref BadNode) (.ref BadGap) = some false)
    (s_BadNode_BadDump : PySem.W.subIn K (.ref BadNode) (.ref BadDump) = some false)
    (s_BadNode_NotRepairable : PySem.W.subIn K (.ref BadNode) (.ref NotRepairable) = some false)
    (s_BadNode_NotOnce : PySem.W.subIn K (.ref BadNode) (.ref NotOnce) = some false)
    (x_BadGap : LkX.ExcTxt P K BadGap i_BadGap ["gap"])
    (e_BadGap : ExcC K BadGap ∧ XfC K BadGap)
    (s_BadGap_LinkError : PySem.W.subIn K (.ref BadGap) (.ref LinkError) = some true)
    (s_BadGap_LogError : PySem.W.subIn K (.ref BadGap) (.ref LogError) = some false)
    (s_BadGap_BadOperation : PySem.W.subIn K (.ref BadGap) (.ref BadOperation) = some false)
    (s_BadGap_Illegal : PySem.W.subIn K (.ref BadGap) (.ref Illegal) = some false)
    (s_BadGap_BadSize : PySem.W.subIn K (.ref BadGap) (.ref BadSize) = some false)
    (s_BadGap_BadNode : PySem.W.subIn K (.ref BadGap) (.ref BadNode) = some false)
    (s_BadGap_BadGap : PySem.W.subIn K (.ref BadGap) (.ref BadGap) = some true)
    (s_BadGap_BadDump : PySem.W.subIn K (.ref BadGap) (.ref BadDump) = some false)
    (s_BadGap_NotRepairable : PySem.W.subIn K (.ref BadGap) (.ref NotRepairable) = some false)
    (s_BadGap_NotOnce : PySem.W.subIn K (.ref BadGap) (.ref NotOnce) = some false)
    (x_BadDump : LkX.ExcTxt P K BadDump i_BadDump ["part"])
    (e_BadDump : ExcC K BadDump ∧ XfC K BadDump)
    (s_BadDump_LinkError : PySem.W.subIn K (.ref BadDump) (.ref LinkError) = some true)
    (s_BadDump_LogError : PySem.W.subIn K (.ref BadDump) (.ref LogError) = some false)
    (s_BadDump_BadOperation : PySem.W.subIn K (.ref BadDump) (.ref BadOperation) = some false)
    (s_BadDump_Illegal : PySem.W.subIn K (.ref BadDump) (.ref Illegal) = some false)
    (s_BadDump_BadSize : PySem.W.subIn K (.ref BadDump) (.ref BadSize) = some false)
    (s_BadDump_BadNode : PySem.W.subIn K (.ref BadDump) (.ref BadNode) = some false)
    (s_BadDump_BadGap : PySem.W.subIn K (.ref BadDump) (.ref BadGap) = some false)
    (s_BadDump_BadDump : PySem.W.subIn K (.ref BadDump) (.ref BadDump) = some true)
    (s_BadDump_NotRepairable : PySem.W.subIn K (.ref BadDump) (.ref NotRepairable) = some false)
    (s_BadDump_NotOnce : PySem.W.subIn K (.ref BadDump) (.ref NotOnce) = some false)
    (x_NotRepairable : LkX.ExcTxt P K NotRepairable i_NotRepairable ["gap"])
    (e_NotRepairable : ExcC K NotRepairable ∧ XfC K NotRepairable)
    (s_NotRepairable_LinkError : PySem.W.subIn K (.ref NotRepairable) (.ref LinkError) = some true)
    (s_NotRepairable_LogError : PySem.W.subIn K (.ref NotRepairable) (.ref LogError) = some false)
    (s_NotRepairable_BadOperation : PySem.W.subIn K (.ref NotRepairable) (.ref BadOperation) = some false)
    (s_NotRepairable_Illegal : PySem.W.subIn K (.ref NotRepairable) (.ref Illegal) = some false)
    (s_NotRepairable_BadSize : PySem.W.subIn K (.ref NotRepairable) (.ref BadSize) = some false)
    (s_NotRepairable_BadNode : PySem.W.subIn K (.ref NotRepairable) (.ref BadNode) = some false)
    (s_NotRepairable_BadGap : PySem.W.subIn K (.ref NotRepairable) (.ref BadGap) = some false)
    (s_NotRepairable_BadDump : PySem.W.subIn K (.ref NotRepairable) (.ref BadDump) = some false)
    (s_NotRepairable_NotRepairable : PySem.W.subIn K (.ref NotRepairable) (.ref NotRepairable) = some true)
    (s_NotRepairable_NotOnce : PySem.W.subIn K (.ref NotRepairable) (.ref NotOnce) = some false)
    (x_NotOnce : LkX.ExcTxt P K NotOnce i_NotOnce ["index"])
    (e_NotOnce : ExcC K NotOnce ∧ XfC K NotOnce)
    (s_NotOnce_LinkError : PySem.W.subIn K (.ref NotOnce) (.ref LinkError) = some true)
    (s_NotOnce_LogError : PySem.W.subIn K (.ref NotOnce) (.ref LogError) = some false)
    (s_NotOnce_BadOperation : PySem.W.subIn K (.ref NotOnce) (.ref BadOperation) = some false)
    (s_NotOnce_Illegal : PySem.W.subIn K (.ref NotOnce) (.ref Illegal) = some false)
    (s_NotOnce_BadSize : PySem.W.subIn K (.ref NotOnce) (.ref BadSize) = some false)
    (s_NotOnce_BadNode : PySem.W.subIn K (.ref NotOnce) (.ref BadNode) = some false)
    (s_NotOnce_BadGap : PySem.W.subIn K (.ref NotOnce) (.ref BadGap) = some false)
    (s_NotOnce_BadDump : PySem.W.subIn K (.ref NotOnce) (.ref BadDump) = some false)
    (s_NotOnce_NotRepairable : PySem.W.subIn K (.ref NotOnce) (.ref NotRepairable) = some false)
    (s_NotOnce_NotOnce : PySem.W.subIn K (.ref NotOnce) (.ref NotOnce) = some true)
    (a_check_size : PySem.W.nsIn K mainGlobals "check_size" = some (some (.ref f_check_size))) (l_check_size : K.lookup f_check_size = some ⟨oc_check_size, od_check_size, .func (PySem.W.fnOf "check_size" "check_size" (defArgs s_check_size) (defBody s_check_size) (defScope s_check_size) .none kV_check_size dc_check_size pm_check_size an_check_size cd_check_size ct_check_size), sl_check_size⟩) (c_check_size : PySem.W.codeIn K cd_check_size "check_size" = true) (k_check_size : PySem.W.keepIn K (.ref f_check_size) = true)
    (a_check_operation : PySem.W.nsIn K mainGlobals "check_operation" = some (some (.ref f_check_operation))) (l_check_operation : K.lookup f_check_operation = some ⟨oc_check_operation, od_check_operation, .func (PySem.W.fnOf "check_operation" "check_operation" (defArgs s_check_operation) (defBody s_check_operation) (defScope s_check_operation) .none kV_check_operation dc_check_operation pm_check_operation an_check_operation cd_check_operation ct_check_operation), sl_check_operation⟩) (c_check_operation : PySem.W.codeIn K cd_check_operation "check_operation" = true) (k_check_operation : PySem.W.keepIn K (.ref f_check_operation) = true)
    (a_check_log : PySem.W.nsIn K mainGlobals "check_log" = some (some (.ref f_check_log))) (l_check_log : K.lookup f_check_log = some ⟨oc_check_log, od_check_log, .func (PySem.W.fnOf "check_log" "check_log" (defArgs s_check_log) (defBody s_check_log) (defScope s_check_log) .none kV_check_log dc_check_log pm_check_log an_check_log cd_check_log ct_check_log), sl_check_log⟩) (c_check_log : PySem.W.codeIn K cd_check_log "check_log" = true) (k_check_log : PySem.W.keepIn K (.ref f_check_log) = true)
    (a__is_legal : PySem.W.nsIn K mainGlobals "_is_legal" = some (some (.ref f__is_legal))) (l__is_legal : K.lookup f__is_legal = some ⟨oc__is_legal, od__is_legal, .func (PySem.W.fnOf "_is_legal" "_is_legal" (defArgs s__is_legal) (defBody s__is_legal) (defScope s__is_legal) .none kV__is_legal dc__is_legal pm__is_legal an__is_legal cd__is_legal ct__is_legal), sl__is_legal⟩) (c__is_legal : PySem.W.codeIn K cd__is_legal "_is_legal" = true) (k__is_legal : PySem.W.keepIn K (.ref f__is_legal) = true)
    (a_replay : PySem.W.nsIn K mainGlobals "replay" = some (some (.ref f_replay))) (l_replay : K.lookup f_replay = some ⟨oc_replay, od_replay, .func (PySem.W.fnOf "replay" "replay" (defArgs s_replay) (defBody s_replay) (defScope s_replay) .none kV_replay dc_replay pm_replay an_replay cd_replay ct_replay), sl_replay⟩) (c_replay : PySem.W.codeIn K cd_replay "replay" = true) (k_replay : PySem.W.keepIn K (.ref f_replay) = true)
    (a_check_once : PySem.W.nsIn K mainGlobals "check_once" = some (some (.ref f_check_once))) (l_check_once : K.lookup f_check_once = some ⟨oc_check_once, od_check_once, .func (PySem.W.fnOf "check_once" "check_once" (defArgs s_check_once) (defBody s_check_once) (defScope s_check_once) .none kV_check_once dc_check_once pm_check_once an_check_once cd_check_once ct_check_once), sl_check_once⟩) (c_check_once : PySem.W.codeIn K cd_check_once "check_once" = true) (k_check_once : PySem.W.keepIn K (.ref f_check_once) = true)
    (a_late_gaps : PySem.W.nsIn K mainGlobals "late_gaps" = some (some (.ref f_late_gaps))) (l_late_gaps : K.lookup f_late_gaps = some ⟨oc_late_gaps, od_late_gaps, .func (PySem.W.fnOf "late_gaps" "late_gaps" (defArgs s_late_gaps) (defBody s_late_gaps) (defScope s_late_gaps) .none kV_late_gaps dc_late_gaps pm_late_gaps an_late_gaps cd_late_gaps ct_late_gaps), sl_late_gaps⟩) (c_late_gaps : PySem.W.codeIn K cd_late_gaps "late_gaps" = true) (k_late_gaps : PySem.W.keepIn K (.ref f_late_gaps) = true)
    (a_late_writes : PySem.W.nsIn K mainGlobals "late_writes" = some (some (.ref f_late_writes))) (l_late_writes : K.lookup f_late_writes = some ⟨oc_late_writes, od_late_writes, .func (PySem.W.fnOf "late_writes" "late_writes" (defArgs s_late_writes) (defBody s_late_writes) (defScope s_late_writes) .none kV_late_writes dc_late_writes pm_late_writes an_late_writes cd_late_writes ct_late_writes), sl_late_writes⟩) (c_late_writes : PySem.W.codeIn K cd_late_writes "late_writes" = true) (k_late_writes : PySem.W.keepIn K (.ref f_late_writes) = true)
    (a_is_complete : PySem.W.nsIn K mainGlobals "is_complete" = some (some (.ref f_is_complete))) (l_is_complete : K.lookup f_is_complete = some ⟨oc_is_complete, od_is_complete, .func (PySem.W.fnOf "is_complete" "is_complete" (defArgs s_is_complete) (defBody s_is_complete) (defScope s_is_complete) .none kV_is_complete dc_is_complete pm_is_complete an_is_complete cd_is_complete ct_is_complete), sl_is_complete⟩) (c_is_complete : PySem.W.codeIn K cd_is_complete "is_complete" = true) (k_is_complete : PySem.W.keepIn K (.ref f_is_complete) = true)
    (a_check_gap : PySem.W.nsIn K mainGlobals "check_gap" = some (some (.ref f_check_gap))) (l_check_gap : K.lookup f_check_gap = some ⟨oc_check_gap, od_check_gap, .func (PySem.W.fnOf "check_gap" "check_gap" (defArgs s_check_gap) (defBody s_check_gap) (defScope s_check_gap) .none kV_check_gap dc_check_gap pm_check_gap an_check_gap cd_check_gap ct_check_gap), sl_check_gap⟩) (c_check_gap : PySem.W.codeIn K cd_check_gap "check_gap" = true) (k_check_gap : PySem.W.keepIn K (.ref f_check_gap) = true)
    (a_left_holds : PySem.W.nsIn K mainGlobals "left_holds" = some (some (.ref f_left_holds))) (l_left_holds : K.lookup f_left_holds = some ⟨oc_left_holds, od_left_holds, .func (PySem.W.fnOf "left_holds" "left_holds" (defArgs s_left_holds) (defBody s_left_holds) (defScope s_left_holds) .none kV_left_holds dc_left_holds pm_left_holds an_left_holds cd_left_holds ct_left_holds), sl_left_holds⟩) (c_left_holds : PySem.W.codeIn K cd_left_holds "left_holds" = true) (k_left_holds : PySem.W.keepIn K (.ref f_left_holds) = true)
    (a_right_holds : PySem.W.nsIn K mainGlobals "right_holds" = some (some (.ref f_right_holds))) (l_right_holds : K.lookup f_right_holds = some ⟨oc_right_holds, od_right_holds, .func (PySem.W.fnOf "right_holds" "right_holds" (defArgs s_right_holds) (defBody s_right_holds) (defScope s_right_holds) .none kV_right_holds dc_right_holds pm_right_holds an_right_holds cd_right_holds ct_right_holds), sl_right_holds⟩) (c_right_holds : PySem.W.codeIn K cd_right_holds "right_holds" = true) (k_right_holds : PySem.W.keepIn K (.ref f_right_holds) = true)
    (a_gap_state : PySem.W.nsIn K mainGlobals "gap_state" = some (some (.ref f_gap_state))) (l_gap_state : K.lookup f_gap_state = some ⟨oc_gap_state, od_gap_state, .func (PySem.W.fnOf "gap_state" "gap_state" (defArgs s_gap_state) (defBody s_gap_state) (defScope s_gap_state) .none kV_gap_state dc_gap_state pm_gap_state an_gap_state cd_gap_state ct_gap_state), sl_gap_state⟩) (c_gap_state : PySem.W.codeIn K cd_gap_state "gap_state" = true) (k_gap_state : PySem.W.keepIn K (.ref f_gap_state) = true)
    (a_gap_states : PySem.W.nsIn K mainGlobals "gap_states" = some (some (.ref f_gap_states))) (l_gap_states : K.lookup f_gap_states = some ⟨oc_gap_states, od_gap_states, .func (PySem.W.fnOf "gap_states" "gap_states" (defArgs s_gap_states) (defBody s_gap_states) (defScope s_gap_states) .none kV_gap_states dc_gap_states pm_gap_states an_gap_states cd_gap_states ct_gap_states), sl_gap_states⟩) (c_gap_states : PySem.W.codeIn K cd_gap_states "gap_states" = true) (k_gap_states : PySem.W.keepIn K (.ref f_gap_states) = true)
    (a_lost_gaps : PySem.W.nsIn K mainGlobals "lost_gaps" = some (some (.ref f_lost_gaps))) (l_lost_gaps : K.lookup f_lost_gaps = some ⟨oc_lost_gaps, od_lost_gaps, .func (PySem.W.fnOf "lost_gaps" "lost_gaps" (defArgs s_lost_gaps) (defBody s_lost_gaps) (defScope s_lost_gaps) .none kV_lost_gaps dc_lost_gaps pm_lost_gaps an_lost_gaps cd_lost_gaps ct_lost_gaps), sl_lost_gaps⟩) (c_lost_gaps : PySem.W.codeIn K cd_lost_gaps "lost_gaps" = true) (k_lost_gaps : PySem.W.keepIn K (.ref f_lost_gaps) = true)
    (a_sole_holders : PySem.W.nsIn K mainGlobals "sole_holders" = some (some (.ref f_sole_holders))) (l_sole_holders : K.lookup f_sole_holders = some ⟨oc_sole_holders, od_sole_holders, .func (PySem.W.fnOf "sole_holders" "sole_holders" (defArgs s_sole_holders) (defBody s_sole_holders) (defScope s_sole_holders) .none kV_sole_holders dc_sole_holders pm_sole_holders an_sole_holders cd_sole_holders ct_sole_holders), sl_sole_holders⟩) (c_sole_holders : PySem.W.codeIn K cd_sole_holders "sole_holders" = true) (k_sole_holders : PySem.W.keepIn K (.ref f_sole_holders) = true)
    (a_check_repairable : PySem.W.nsIn K mainGlobals "check_repairable" = some (some (.ref f_check_repairable))) (l_check_repairable : K.lookup f_check_repairable = some ⟨oc_check_repairable, od_check_repairable, .func (PySem.W.fnOf "check_repairable" "check_repairable" (defArgs s_check_repairable) (defBody s_check_repairable) (defScope s_check_repairable) .none kV_check_repairable dc_check_repairable pm_check_repairable an_check_repairable cd_check_repairable ct_check_repairable), sl_check_repairable⟩) (c_check_repairable : PySem.W.codeIn K cd_check_repairable "check_repairable" = true) (k_check_repairable : PySem.W.keepIn K (.ref f_check_repairable) = true)
    (a_is_due : PySem.W.nsIn K mainGlobals "is_due" = some (some (.ref f_is_due))) (l_is_due : K.lookup f_is_due = some ⟨oc_is_due, od_is_due, .func (PySem.W.fnOf "is_due" "is_due" (defArgs s_is_due) (defBody s_is_due) (defScope s_is_due) .none kV_is_due dc_is_due pm_is_due an_is_due cd_is_due ct_is_due), sl_is_due⟩) (c_is_due : PySem.W.codeIn K cd_is_due "is_due" = true) (k_is_due : PySem.W.keepIn K (.ref f_is_due) = true)
    (a__share : PySem.W.nsIn K mainGlobals "_share" = some (some (.ref f__share))) (l__share : K.lookup f__share = some ⟨oc__share, od__share, .func (PySem.W.fnOf "_share" "_share" (defArgs s__share) (defBody s__share) (defScope s__share) .none kV__share dc__share pm__share an__share cd__share ct__share), sl__share⟩) (c__share : PySem.W.codeIn K cd__share "_share" = true) (k__share : PySem.W.keepIn K (.ref f__share) = true)
    (a_is_repairable : PySem.W.nsIn K mainGlobals "is_repairable" = some (some (.ref f_is_repairable))) (l_is_repairable : K.lookup f_is_repairable = some ⟨oc_is_repairable, od_is_repairable, .func (PySem.W.fnOf "is_repairable" "is_repairable" (defArgs s_is_repairable) (defBody s_is_repairable) (defScope s_is_repairable) .none kV_is_repairable dc_is_repairable pm_is_repairable an_is_repairable cd_is_repairable ct_is_repairable), sl_is_repairable⟩) (c_is_repairable : PySem.W.codeIn K cd_is_repairable "is_repairable" = true) (k_is_repairable : PySem.W.keepIn K (.ref f_is_repairable) = true)
    (a_due_nodes : PySem.W.nsIn K mainGlobals "due_nodes" = some (some (.ref f_due_nodes))) (l_due_nodes : K.lookup f_due_nodes = some ⟨oc_due_nodes, od_due_nodes, .func (PySem.W.fnOf "due_nodes" "due_nodes" (defArgs s_due_nodes) (defBody s_due_nodes) (defScope s_due_nodes) .none kV_due_nodes dc_due_nodes pm_due_nodes an_due_nodes cd_due_nodes ct_due_nodes), sl_due_nodes⟩) (c_due_nodes : PySem.W.codeIn K cd_due_nodes "due_nodes" = true) (k_due_nodes : PySem.W.keepIn K (.ref f_due_nodes) = true)
    (a_settled_debt : PySem.W.nsIn K mainGlobals "settled_debt" = some (some (.ref f_settled_debt))) (l_settled_debt : K.lookup f_settled_debt = some ⟨oc_settled_debt, od_settled_debt, .func (PySem.W.fnOf "settled_debt" "settled_debt" (defArgs s_settled_debt) (defBody s_settled_debt) (defScope s_settled_debt) .none kV_settled_debt dc_settled_debt pm_settled_debt an_settled_debt cd_settled_debt ct_settled_debt), sl_settled_debt⟩) (c_settled_debt : PySem.W.codeIn K cd_settled_debt "settled_debt" = true) (k_settled_debt : PySem.W.keepIn K (.ref f_settled_debt) = true)
    (a_debt_of : PySem.W.nsIn K mainGlobals "debt_of" = some (some (.ref f_debt_of))) (l_debt_of : K.lookup f_debt_of = some ⟨oc_debt_of, od_debt_of, .func (PySem.W.fnOf "debt_of" "debt_of" (defArgs s_debt_of) (defBody s_debt_of) (defScope s_debt_of) .none kV_debt_of dc_debt_of pm_debt_of an_debt_of cd_debt_of ct_debt_of), sl_debt_of⟩) (c_debt_of : PySem.W.codeIn K cd_debt_of "debt_of" = true) (k_debt_of : PySem.W.keepIn K (.ref f_debt_of) = true)
    (a__law_mixed : PySem.W.nsIn K mainGlobals "_law_mixed" = some (some (.ref f__law_mixed))) (l__law_mixed : K.lookup f__law_mixed = some ⟨oc__law_mixed, od__law_mixed, .func (PySem.W.fnOf "_law_mixed" "_law_mixed" (defArgs s__law_mixed) (defBody s__law_mixed) (defScope s__law_mixed) .none kV__law_mixed dc__law_mixed pm__law_mixed an__law_mixed cd__law_mixed ct__law_mixed), sl__law_mixed⟩) (c__law_mixed : PySem.W.codeIn K cd__law_mixed "_law_mixed" = true) (k__law_mixed : PySem.W.keepIn K (.ref f__law_mixed) = true)
    (a__law_box : PySem.W.nsIn K mainGlobals "_law_box" = some (some (.ref f__law_box))) (l__law_box : K.lookup f__law_box = some ⟨oc__law_box, od__law_box, .func (PySem.W.fnOf "_law_box" "_law_box" (defArgs s__law_box) (defBody s__law_box) (defScope s__law_box) .none kV__law_box dc__law_box pm__law_box an__law_box cd__law_box ct__law_box), sl__law_box⟩) (c__law_box : PySem.W.codeIn K cd__law_box "_law_box" = true) (k__law_box : PySem.W.keepIn K (.ref f__law_box) = true)
    (a__law_take : PySem.W.nsIn K mainGlobals "_law_take" = some (some (.ref f__law_take))) (l__law_take : K.lookup f__law_take = some ⟨oc__law_take, od__law_take, .func (PySem.W.fnOf "_law_take" "_law_take" (defArgs s__law_take) (defBody s__law_take) (defScope s__law_take) .none kV__law_take dc__law_take pm__law_take an__law_take cd__law_take ct__law_take), sl__law_take⟩) (c__law_take : PySem.W.codeIn K cd__law_take "_law_take" = true) (k__law_take : PySem.W.keepIn K (.ref f__law_take) = true)
    (a__law_size : PySem.W.nsIn K mainGlobals "_law_size" = some (some (.ref f__law_size))) (l__law_size : K.lookup f__law_size = some ⟨oc__law_size, od__law_size, .func (PySem.W.fnOf "_law_size" "_law_size" (defArgs s__law_size) (defBody s__law_size) (defScope s__law_size) .none kV__law_size dc__law_size pm__law_size an__law_size cd__law_size ct__law_size), sl__law_size⟩) (c__law_size : PySem.W.codeIn K cd__law_size "_law_size" = true) (k__law_size : PySem.W.keepIn K (.ref f__law_size) = true)
    (a__law_range : PySem.W.nsIn K mainGlobals "_law_range" = some (some (.ref f__law_range))) (l__law_range : K.lookup f__law_range = some ⟨oc__law_range, od__law_range, .func (PySem.W.fnOf "_law_range" "_law_range" (defArgs s__law_range) (defBody s__law_range) (defScope s__law_range) .none kV__law_range dc__law_range pm__law_range an__law_range cd__law_range ct__law_range), sl__law_range⟩) (c__law_range : PySem.W.codeIn K cd__law_range "_law_range" = true) (k__law_range : PySem.W.keepIn K (.ref f__law_range) = true)
    (a__law_start : PySem.W.nsIn K mainGlobals "_law_start" = some (some (.ref f__law_start))) (l__law_start : K.lookup f__law_start = some ⟨oc__law_start, od__law_start, .func (PySem.W.fnOf "_law_start" "_law_start" (defArgs s__law_start) (defBody s__law_start) (defScope s__law_start) .none kV__law_start dc__law_start pm__law_start an__law_start cd__law_start ct__law_start), sl__law_start⟩) (c__law_start : PySem.W.codeIn K cd__law_start "_law_start" = true) (k__law_start : PySem.W.keepIn K (.ref f__law_start) = true)
    (a__law_late : PySem.W.nsIn K mainGlobals "_law_late" = some (some (.ref f__law_late))) (l__law_late : K.lookup f__law_late = some ⟨oc__law_late, od__law_late, .func (PySem.W.fnOf "_law_late" "_law_late" (defArgs s__law_late) (defBody s__law_late) (defScope s__law_late) .none kV__law_late dc__law_late pm__law_late an__law_late cd__law_late ct__law_late), sl__law_late⟩) (c__law_late : PySem.W.codeIn K cd__law_late "_law_late" = true) (k__law_late : PySem.W.keepIn K (.ref f__law_late) = true)
    (a__law_step : PySem.W.nsIn K mainGlobals "_law_step" = some (some (.ref f__law_step))) (l__law_step : K.lookup f__law_step = some ⟨oc__law_step, od__law_step, .func (PySem.W.fnOf "_law_step" "_law_step" (defArgs s__law_step) (defBody s__law_step) (defScope s__law_step) .none kV__law_step dc__law_step pm__law_step an__law_step cd__law_step ct__law_step), sl__law_step⟩) (c__law_step : PySem.W.codeIn K cd__law_step "_law_step" = true) (k__law_step : PySem.W.keepIn K (.ref f__law_step) = true)
    (a__law_pattern : PySem.W.nsIn K mainGlobals "_law_pattern" = some (some (.ref f__law_pattern))) (l__law_pattern : K.lookup f__law_pattern = some ⟨oc__law_pattern, od__law_pattern, .func (PySem.W.fnOf "_law_pattern" "_law_pattern" (defArgs s__law_pattern) (defBody s__law_pattern) (defScope s__law_pattern) .none kV__law_pattern dc__law_pattern pm__law_pattern an__law_pattern cd__law_pattern ct__law_pattern), sl__law_pattern⟩) (c__law_pattern : PySem.W.codeIn K cd__law_pattern "_law_pattern" = true) (k__law_pattern : PySem.W.keepIn K (.ref f__law_pattern) = true)
    (a__law_log : PySem.W.nsIn K mainGlobals "_law_log" = some (some (.ref f__law_log))) (l__law_log : K.lookup f__law_log = some ⟨oc__law_log, od__law_log, .func (PySem.W.fnOf "_law_log" "_law_log" (defArgs s__law_log) (defBody s__law_log) (defScope s__law_log) .none kV__law_log dc__law_log pm__law_log an__law_log cd__law_log ct__law_log), sl__law_log⟩) (c__law_log : PySem.W.codeIn K cd__law_log "_law_log" = true) (k__law_log : PySem.W.keepIn K (.ref f__law_log) = true)
    (a__law_first_late : PySem.W.nsIn K mainGlobals "_law_first_late" = some (some (.ref f__law_first_late))) (l__law_first_late : K.lookup f__law_first_late = some ⟨oc__law_first_late, od__law_first_late, .func (PySem.W.fnOf "_law_first_late" "_law_first_late" (defArgs s__law_first_late) (defBody s__law_first_late) (defScope s__law_first_late) .none kV__law_first_late dc__law_first_late pm__law_first_late an__law_first_late cd__law_first_late ct__law_first_late), sl__law_first_late⟩) (c__law_first_late : PySem.W.codeIn K cd__law_first_late "_law_first_late" = true) (k__law_first_late : PySem.W.keepIn K (.ref f__law_first_late) = true)
    (a__law_after : PySem.W.nsIn K mainGlobals "_law_after" = some (some (.ref f__law_after))) (l__law_after : K.lookup f__law_after = some ⟨oc__law_after, od__law_after, .func (PySem.W.fnOf "_law_after" "_law_after" (defArgs s__law_after) (defBody s__law_after) (defScope s__law_after) .none kV__law_after dc__law_after pm__law_after an__law_after cd__law_after ct__law_after), sl__law_after⟩) (c__law_after : PySem.W.codeIn K cd__law_after "_law_after" = true) (k__law_after : PySem.W.keepIn K (.ref f__law_after) = true)
    (a__law_states : PySem.W.nsIn K mainGlobals "_law_states" = some (some (.ref f__law_states))) (l__law_states : K.lookup f__law_states = some ⟨oc__law_states, od__law_states, .func (PySem.W.fnOf "_law_states" "_law_states" (defArgs s__law_states) (defBody s__law_states) (defScope s__law_states) .none kV__law_states dc__law_states pm__law_states an__law_states cd__law_states ct__law_states), sl__law_states⟩) (c__law_states : PySem.W.codeIn K cd__law_states "_law_states" = true) (k__law_states : PySem.W.keepIn K (.ref f__law_states) = true)
    (a__law_integer : PySem.W.nsIn K mainGlobals "_law_integer" = some (some (.ref f__law_integer))) (l__law_integer : K.lookup f__law_integer = some ⟨oc__law_integer, od__law_integer, .func (PySem.W.fnOf "_law_integer" "_law_integer" (defArgs s__law_integer) (defBody s__law_integer) (defScope s__law_integer) .none kV__law_integer dc__law_integer pm__law_integer an__law_integer cd__law_integer ct__law_integer), sl__law_integer⟩) (c__law_integer : PySem.W.codeIn K cd__law_integer "_law_integer" = true) (k__law_integer : PySem.W.keepIn K (.ref f__law_integer) = true)
    (a__law_row : PySem.W.nsIn K mainGlobals "_law_row" = some (some (.ref f__law_row))) (l__law_row : K.lookup f__law_row = some ⟨oc__law_row, od__law_row, .func (PySem.W.fnOf "_law_row" "_law_row" (defArgs s__law_row) (defBody s__law_row) (defScope s__law_row) .none kV__law_row dc__law_row pm__law_row an__law_row cd__law_row ct__law_row), sl__law_row⟩) (c__law_row : PySem.W.codeIn K cd__law_row "_law_row" = true) (k__law_row : PySem.W.keepIn K (.ref f__law_row) = true)
    (a__law_texts : PySem.W.nsIn K mainGlobals "_law_texts" = some (some (.ref f__law_texts))) (l__law_texts : K.lookup f__law_texts = some ⟨oc__law_texts, od__law_texts, .func (PySem.W.fnOf "_law_texts" "_law_texts" (defArgs s__law_texts) (defBody s__law_texts) (defScope s__law_texts) .none kV__law_texts dc__law_texts pm__law_texts an__law_texts cd__law_texts ct__law_texts), sl__law_texts⟩) (c__law_texts : PySem.W.codeIn K cd__law_texts "_law_texts" = true) (k__law_texts : PySem.W.keepIn K (.ref f__law_texts) = true)
    (a__law_is_pair : PySem.W.nsIn K mainGlobals "_law_is_pair" = some (some (.ref f__law_is_pair))) (l__law_is_pair : K.lookup f__law_is_pair = some ⟨oc__law_is_pair, od__law_is_pair, .func (PySem.W.fnOf "_law_is_pair" "_law_is_pair" (defArgs s__law_is_pair) (defBody s__law_is_pair) (defScope s__law_is_pair) .none kV__law_is_pair dc__law_is_pair pm__law_is_pair an__law_is_pair cd__law_is_pair ct__law_is_pair), sl__law_is_pair⟩) (c__law_is_pair : PySem.W.codeIn K cd__law_is_pair "_law_is_pair" = true) (k__law_is_pair : PySem.W.keepIn K (.ref f__law_is_pair) = true)
    (a__law_told_gaps : PySem.W.nsIn K mainGlobals "_law_told_gaps" = some (some (.ref f__law_told_gaps))) (l__law_told_gaps : K.lookup f__law_told_gaps = some ⟨oc__law_told_gaps, od__law_told_gaps, .func (PySem.W.fnOf "_law_told_gaps" "_law_told_gaps" (defArgs s__law_told_gaps) (defBody s__law_told_gaps) (defScope s__law_told_gaps) .none kV__law_told_gaps dc__law_told_gaps pm__law_told_gaps an__law_told_gaps cd__law_told_gaps ct__law_told_gaps), sl__law_told_gaps⟩) (c__law_told_gaps : PySem.W.codeIn K cd__law_told_gaps "_law_told_gaps" = true) (k__law_told_gaps : PySem.W.keepIn K (.ref f__law_told_gaps) = true)
    (a__law_complete : PySem.W.nsIn K mainGlobals "_law_complete" = some (some (.ref f__law_complete))) (l__law_complete : K.lookup f__law_complete = some ⟨oc__law_complete, od__law_complete, .func (PySem.W.fnOf "_law_complete" "_law_complete" (defArgs s__law_complete) (defBody s__law_complete) (defScope s__law_complete) .none kV__law_complete dc__law_complete pm__law_complete an__law_complete cd__law_complete ct__law_complete), sl__law_complete⟩) (c__law_complete : PySem.W.codeIn K cd__law_complete "_law_complete" = true) (k__law_complete : PySem.W.keepIn K (.ref f__law_complete) = true)
    (a__law_holders : PySem.W.nsIn K mainGlobals "_law_holders" = some (some (.ref f__law_holders))) (l__law_holders : K.lookup f__law_holders = some ⟨oc__law_holders, od__law_holders, .func (PySem.W.fnOf "_law_holders" "_law_holders" (defArgs s__law_holders) (defBody s__law_holders) (defScope s__law_holders) .none kV__law_holders dc__law_holders pm__law_holders an__law_holders cd__law_holders ct__law_holders), sl__law_holders⟩) (c__law_holders : PySem.W.codeIn K cd__law_holders "_law_holders" = true) (k__law_holders : PySem.W.keepIn K (.ref f__law_holders) = true)
    (a__law_calm : PySem.W.nsIn K mainGlobals "_law_calm" = some (some (.ref f__law_calm))) (l__law_calm : K.lookup f__law_calm = some ⟨oc__law_calm, od__law_calm, .func (PySem.W.fnOf "_law_calm" "_law_calm" (defArgs s__law_calm) (defBody s__law_calm) (defScope s__law_calm) .none kV__law_calm dc__law_calm pm__law_calm an__law_calm cd__law_calm ct__law_calm), sl__law_calm⟩) (c__law_calm : PySem.W.codeIn K cd__law_calm "_law_calm" = true) (k__law_calm : PySem.W.keepIn K (.ref f__law_calm) = true)
    (a_law : PySem.W.nsIn K mainGlobals "law" = some (some (.ref f_law))) (l_law : K.lookup f_law = some ⟨oc_law, od_law, .func (PySem.W.fnOf "law" "law" (defArgs s_law) (defBody s_law) (defScope s_law) .none kV_law dc_law pm_law an_law cd_law ct_law), sl_law⟩) (c_law : PySem.W.codeIn K cd_law "law" = true) (k_law : PySem.W.keepIn K (.ref f_law) = true)
    (b_ValueError : PySem.W.nsIn K mainGlobals "ValueError" = some none)
    (b_enumerate : PySem.W.nsIn K mainGlobals "enumerate" = some none)
    (b_range : PySem.W.nsIn K mainGlobals "range" = some none)
    (b_sum : PySem.W.nsIn K mainGlobals "sum" = some none)
    (b_abs : PySem.W.nsIn K mainGlobals "abs" = some none)
    (b_max : PySem.W.nsIn K mainGlobals "max" = some none)
    (b_len : PySem.W.nsIn K mainGlobals "len" = some none)
    (b_list : PySem.W.nsIn K mainGlobals "list" = some none)
    (b_int : PySem.W.nsIn K mainGlobals "int" = some none)
    (b_min : PySem.W.nsIn K mainGlobals "min" = some none)
    (b_isinstance : PySem.W.nsIn K mainGlobals "isinstance" = some none)
    (b_str : PySem.W.nsIn K mainGlobals "str" = some none)
    (b_bool : PySem.W.nsIn K mainGlobals "bool" = some none)
    (b_tuple : PySem.W.nsIn K mainGlobals "tuple" = some none)
    (b_super : PySem.W.nsIn K mainGlobals "super" = some none)
    (k_MOST_NODES : PySem.W.nsIn K mainGlobals "MOST_NODES" = some (some (.int 60 t_MOST_NODES)))
    (k_MOST_DIGITS : PySem.W.nsIn K mainGlobals "MOST_DIGITS" = some (some (.int 9 t_MOST_DIGITS)))
    (k_PARTS : PySem.W.nsIn K mainGlobals "PARTS" = some (some (.int 3 t_PARTS)))
    : ∃ fd : FuncData, (∀ (s : Shared) (v : Value), BindsTo s fd ⟨[v], []⟩ [("_law_script", v)]) ∧ ∀ base : Heap, K.In base → base.Ns mainGlobals mg → FnOk P w K mg base (L2N.CX P w) 11 fa fd ["_law_script"] (spL K) := by
  have e := hfa.symm.trans (PySem.W.mg_of X G a_law)
  cases e
  have mm_Links___init__ := fun_mk (st := s_Links___init__) l_Links___init__ c_Links___init__ k_Links___init__
  have mm_Links_left := fun_mk (st := s_Links_left) l_Links_left c_Links_left k_Links_left
  have mm_Links_right := fun_mk (st := s_Links_right) l_Links_right c_Links_right k_Links_right
  have mm_Links_is_out := fun_mk (st := s_Links_is_out) l_Links_is_out c_Links_is_out k_Links_is_out
  have mm_Links_outs := fun_mk (st := s_Links_outs) l_Links_outs c_Links_outs k_Links_outs
  have mm_Links_apply := fun_mk (st := s_Links_apply) l_Links_apply c_Links_apply k_Links_apply
  have mm_Links_apply_at := fun_mk (st := s_Links_apply_at) l_Links_apply_at c_Links_apply_at k_Links_apply_at
  have mm_Links_is_sound := fun_mk (st := s_Links_is_sound) l_Links_is_sound c_Links_is_sound k_Links_is_sound
  have mm_Links_is_whole := fun_mk (st := s_Links_is_whole) l_Links_is_whole c_Links_is_whole k_Links_is_whole
  have m_check_size := nm_mk (st := s_check_size) X G a_check_size l_check_size c_check_size k_check_size
  have m_check_operation := nm_mk (st := s_check_operation) X G a_check_operation l_check_operation c_check_operation k_check_operation
  have m_check_log := nm_mk (st := s_check_log) X G a_check_log l_check_log c_check_log k_check_log
  have m__is_legal := nm_mk (st := s__is_legal) X G a__is_legal l__is_legal c__is_legal k__is_legal
  have m_replay := nm_mk (st := s_replay) X G a_replay l_replay c_replay k_replay
  have m_check_once := nm_mk (st := s_check_once) X G a_check_once l_check_once c_check_once k_check_once
  have m_late_gaps := nm_mk (st := s_late_gaps) X G a_late_gaps l_late_gaps c_late_gaps k_late_gaps
  have m_late_writes := nm_mk (st := s_late_writes) X G a_late_writes l_late_writes c_late_writes k_late_writes
  have m_is_complete := nm_mk (st := s_is_complete) X G a_is_complete l_is_complete c_is_complete k_is_complete
  have m_check_gap := nm_mk (st := s_check_gap) X G a_check_gap l_check_gap c_check_gap k_check_gap
  have m_left_holds := nm_mk (st := s_left_holds) X G a_left_holds l_left_holds c_left_holds k_left_holds
  have m_right_holds := nm_mk (st := s_right_holds) X G a_right_holds l_right_holds c_right_holds k_right_holds
  have m_gap_state := nm_mk (st := s_gap_state) X G a_gap_state l_gap_state c_gap_state k_gap_state
  have m_gap_states := nm_mk (st := s_gap_states) X G a_gap_states l_gap_states c_gap_states k_gap_states
  have m_lost_gaps := nm_mk (st := s_lost_gaps) X G a_lost_gaps l_lost_gaps c_lost_gaps k_lost_gaps
  have m_sole_holders := nm_mk (st := s_sole_holders) X G a_sole_holders l_sole_holders c_sole_holders k_sole_holders
  have m_check_repairable := nm_mk (st := s_check_repairable) X G a_check_repairable l_check_repairable c_check_repairable k_check_repairable
  have m_is_due := nm_mk (st := s_is_due) X G a_is_due l_is_due c_is_due k_is_due
  have m__share := nm_mk (st := s__share) X G a__share l__share c__share k__share
  have m_is_repairable := nm_mk (st := s_is_repairable) X G a_is_repairable l_is_repairable c_is_repairable k_is_repairable
  have m_due_nodes := nm_mk (st := s_due_nodes) X G a_due_nodes l_due_nodes c_due_nodes k_due_nodes
  have m_settled_debt := nm_mk (st := s_settled_debt) X G a_settled_debt l_settled_debt c_settled_debt k_settled_debt
  have m_debt_of := nm_mk (st := s_debt_of) X G a_debt_of l_debt_of c_debt_of k_debt_of
  have m__law_mixed := nm_mk (st := s__law_mixed) X G a__law_mixed l__law_mixed c__law_mixed k__law_mixed
  have m__law_box := nm_mk (st := s__law_box) X G a__law_box l__law_box c__law_box k__law_box
  have m__law_take := nm_mk (st := s__law_take) X G a__law_take l__law_take c__law_take k__law_take
  have m__law_size := nm_mk (st := s__law_size) X G a__law_size l__law_size c__law_size k__law_size
  have m__law_range := nm_mk (st := s__law_range) X G a__law_range l__law_range c__law_range k__law_range
  have m__law_start := nm_mk (st := s__law_start) X G a__law_start l__law_start c__law_start k__law_start
  have m__law_late := nm_mk (st := s__law_late) X G a__law_late l__law_late c__law_late k__law_late
  have m__law_step := nm_mk (st := s__law_step) X G a__law_step l__law_step c__law_step k__law_step
  have m__law_pattern := nm_mk (st := s__law_pattern) X G a__law_pattern l__law_pattern c__law_pattern k__law_pattern
  have m__law_log := nm_mk (st := s__law_log) X G a__law_log l__law_log c__law_log k__law_log
  have m__law_first_late := nm_mk (st := s__law_first_late) X G a__law_first_late l__law_first_late c__law_first_late k__law_first_late
  have m__law_after := nm_mk (st := s__law_after) X G a__law_after l__law_after c__law_after k__law_after
  have m__law_states := nm_mk (st := s__law_states) X G a__law_states l__law_states c__law_states k__law_states
  have m__law_integer := nm_mk (st := s__law_integer) X G a__law_integer l__law_integer c__law_integer k__law_integer
  have m__law_row := nm_mk (st := s__law_row) X G a__law_row l__law_row c__law_row k__law_row
  have m__law_texts := nm_mk (st := s__law_texts) X G a__law_texts l__law_texts c__law_texts k__law_texts
  have m__law_is_pair := nm_mk (st := s__law_is_pair) X G a__law_is_pair l__law_is_pair c__law_is_pair k__law_is_pair
  have m__law_told_gaps := nm_mk (st := s__law_told_gaps) X G a__law_told_gaps l__law_told_gaps c__law_told_gaps k__law_told_gaps
  have m__law_complete := nm_mk (st := s__law_complete) X G a__law_complete l__law_complete c__law_complete k__law_complete
  have m__law_holders := nm_mk (st := s__law_holders) X G a__law_holders l__law_holders c__law_holders k__law_holders
  have m__law_calm := nm_mk (st := s__law_calm) X G a__law_calm l__law_calm c__law_calm k__law_calm
  have m_law := nm_mk (st := s_law) X G a_law l_law c_law k_law
  have T : Txt P K mg ⟨f_check_size, f_check_operation, f_check_log, f__is_legal, f_replay, f_check_once, f_late_gaps, f_late_writes, f_is_complete, f_check_gap, f_left_holds, f_right_holds, f_gap_state, f_gap_states, f_lost_gaps, f_sole_holders, f_check_repairable, f_is_due, f__share, f_is_repairable, f_due_nodes, f_settled_debt, f_debt_of, f__law_mixed, f__law_box, f__law_take, f__law_size, f__law_range, f__law_start, f__law_late, f__law_step, f__law_pattern, f__law_log, f__law_first_late, f__law_after, f__law_states, f__law_integer, f__law_row, f__law_texts, f__law_is_pair, f__law_told_gaps, f__law_complete, f__law_holders, f__law_calm, fa, f_Links___init__, f_Links_left, f_Links_right, f_Links_is_out, f_Links_outs, f_Links_apply, f_Links_apply_at, f_Links_is_sound, f_Links_is_whole, Links, LinkError, LogError, BadOperation, i_BadOperation, Illegal, i_Illegal, BadSize, i_BadSize, BadNode, i_BadNode, BadGap, i_BadGap, BadDump, i_BadDump, NotRepairable, i_NotRepairable, NotOnce, i_NotOnce⟩ :=
    { n_check_size := m_check_size.1,
      F_check_size := ⟨_, m_check_size.2, Fun.binds (ps := ["size"]) m_check_size.2 fun _ _ _ _ _ _ us hl => match us, hl with | [_], _ => rfl⟩,
      n_check_operation := m_check_operation.1,
      F_check_operation := ⟨_, m_check_operation.2, Fun.binds (ps := ["size", "operation", "index"]) m_check_operation.2 fun _ _ _ _ _ _ us hl => match us, hl with | [_, _, _], _ => rfl⟩,
      n_check_log := m_check_log.1,
      F_check_log := ⟨_, m_check_log.2, Fun.binds (ps := ["size", "log"]) m_check_log.2 fun _ _ _ _ _ _ us hl => match us, hl with | [_, _], _ => rfl⟩,
      n__is_legal := m__is_legal.1,
      F__is_legal := ⟨_, m__is_legal.2, Fun.binds (ps := ["flags", "operation"]) m__is_legal.2 fun _ _ _ _ _ _ us hl => match us, hl with | [_, _], _ => rfl⟩,
      n_replay := m_replay.1,
      F_replay := ⟨_, m_replay.2, Fun.binds (ps := ["size", "log"]) m_replay.2 fun _ _ _ _ _ _ us hl => match us, hl with | [_, _], _ => rfl⟩,
      n_check_once := m_check_once.1,
      F_check_once := ⟨_, m_check_once.2, Fun.binds (ps := ["size", "log"]) m_check_once.2 fun _ _ _ _ _ _ us hl => match us, hl with | [_, _], _ => rfl⟩,
      n_late_gaps := m_late_gaps.1,
      F_late_gaps := ⟨_, m_late_gaps.2, Fun.binds (ps := ["links", "back", "node"]) m_late_gaps.2 fun _ _ _ _ _ _ us hl => match us, hl with | [_, _, _], _ => rfl⟩,
      n_late_writes := m_late_writes.1,
      F_late_writes := ⟨_, m_late_writes.2, Fun.binds (ps := ["size", "log"]) m_late_writes.2 fun _ _ _ _ _ _ us hl => match us, hl with | [_, _], _ => rfl⟩,
      n_is_complete := m_is_complete.1,
      F_is_complete := ⟨_, m_is_complete.2, Fun.binds (ps := ["size", "log"]) m_is_complete.2 fun _ _ _ _ _ _ us hl => match us, hl with | [_, _], _ => rfl⟩,
      n_check_gap := m_check_gap.1,
      F_check_gap := ⟨_, m_check_gap.2, Fun.binds (ps := ["size", "gap"]) m_check_gap.2 fun _ _ _ _ _ _ us hl => match us, hl with | [_, _], _ => rfl⟩,
      n_left_holds := m_left_holds.1,
      F_left_holds := ⟨_, m_left_holds.2, Fun.binds (ps := ["links", "gap"]) m_left_holds.2 fun _ _ _ _ _ _ us hl => match us, hl with | [_, _], _ => rfl⟩,
      n_right_holds := m_right_holds.1,
      F_right_holds := ⟨_, m_right_holds.2, Fun.binds (ps := ["links", "gap"]) m_right_holds.2 fun _ _ _ _ _ _ us hl => match us, hl with | [_, _], _ => rfl⟩,
      n_gap_state := m_gap_state.1,
      F_gap_state := ⟨_, m_gap_state.2, Fun.binds (ps := ["links", "gap"]) m_gap_state.2 fun _ _ _ _ _ _ us hl => match us, hl with | [_, _], _ => rfl⟩,
      n_gap_states := m_gap_states.1,
      F_gap_states := ⟨_, m_gap_states.2, Fun.binds (ps := ["links"]) m_gap_states.2 fun _ _ _ _ _ _ us hl => match us, hl with | [_], _ => rfl⟩,
      n_lost_gaps := m_lost_gaps.1,
      F_lost_gaps := ⟨_, m_lost_gaps.2, Fun.binds (ps := ["links"]) m_lost_gaps.2 fun _ _ _ _ _ _ us hl => match us, hl with | [_], _ => rfl⟩,
      n_sole_holders := m_sole_holders.1,
      F_sole_holders := ⟨_, m_sole_holders.2, Fun.binds (ps := ["links"]) m_sole_holders.2 fun _ _ _ _ _ _ us hl => match us, hl with | [_], _ => rfl⟩,
      n_check_repairable := m_check_repairable.1,
      F_check_repairable := ⟨_, m_check_repairable.2, Fun.binds (ps := ["links"]) m_check_repairable.2 fun _ _ _ _ _ _ us hl => match us, hl with | [_], _ => rfl⟩,
      n_is_due := m_is_due.1,
      F_is_due := ⟨_, m_is_due.2, Fun.binds (ps := ["links", "node"]) m_is_due.2 fun _ _ _ _ _ _ us hl => match us, hl with | [_, _], _ => rfl⟩,
      n__share := m__share.1,
      F__share := ⟨_, m__share.2, Fun.binds (ps := ["links", "node"]) m__share.2 fun _ _ _ _ _ _ us hl => match us, hl with | [_, _], _ => rfl⟩,
      n_is_repairable := m_is_repairable.1,
      F_is_repairable := ⟨_, m_is_repairable.2, Fun.binds (ps := ["links"]) m_is_repairable.2 fun _ _ _ _ _ _ us hl => match us, hl with | [_], _ => rfl⟩,
      n_due_nodes := m_due_nodes.1,
      F_due_nodes := ⟨_, m_due_nodes.2, Fun.binds (ps := ["links"]) m_due_nodes.2 fun _ _ _ _ _ _ us hl => match us, hl with | [_], _ => rfl⟩,
      n_settled_debt := m_settled_debt.1,
      F_settled_debt := ⟨_, m_settled_debt.2, Fun.binds (ps := ["links"]) m_settled_debt.2 fun _ _ _ _ _ _ us hl => match us, hl with | [_], _ => rfl⟩,
      n_debt_of := m_debt_of.1,
      F_debt_of := ⟨_, m_debt_of.2, Fun.binds (ps := ["links"]) m_debt_of.2 fun _ _ _ _ _ _ us hl => match us, hl with | [_], _ => rfl⟩,
      n__law_mixed := m__law_mixed.1,
      F__law_mixed := ⟨_, m__law_mixed.2, Fun.binds (ps := ["_law_cell", "_law_turn"]) m__law_mixed.2 fun _ _ _ _ _ _ us hl => match us, hl with | [_, _], _ => rfl⟩,
      n__law_box := m__law_box.1,
      F__law_box := ⟨_, m__law_box.2, Fun.binds (ps := ["_law_script"]) m__law_box.2 fun _ _ _ _ _ _ us hl => match us, hl with | [_], _ => rfl⟩,
      n__law_take := m__law_take.1,
      F__law_take := ⟨_, m__law_take.2, Fun.binds (ps := ["_law_box_here", "_law_many"]) m__law_take.2 fun _ _ _ _ _ _ us hl => match us, hl with | [_, _], _ => rfl⟩,
      n__law_size := m__law_size.1,
      F__law_size := ⟨_, m__law_size.2, Fun.binds (ps := ["_law_box_here"]) m__law_size.2 fun _ _ _ _ _ _ us hl => match us, hl with | [_], _ => rfl⟩,
      n__law_range := m__law_range.1,
      F__law_range := ⟨_, m__law_range.2, Fun.binds (ps := ["_law_box_here", "_law_size_here"]) m__law_range.2 fun _ _ _ _ _ _ us hl => match us, hl with | [_, _], _ => rfl⟩,
      n__law_start := m__law_start.1,
      F__law_start := ⟨_, m__law_start.2, Fun.binds (ps := ["_law_size_here"]) m__law_start.2 fun _ _ _ _ _ _ us hl => match us, hl with | [_], _ => rfl⟩,
      n__law_late := m__law_late.1,
      F__law_late := ⟨_, m__law_late.2, Fun.binds (ps := ["_law_book", "_law_node"]) m__law_late.2 fun _ _ _ _ _ _ us hl => match us, hl with | [_, _], _ => rfl⟩,
      n__law_step := m__law_step.1,
      F__law_step := ⟨_, m__law_step.2, Fun.binds (ps := ["_law_book", "_law_operation"]) m__law_step.2 fun _ _ _ _ _ _ us hl => match us, hl with | [_, _], _ => rfl⟩,
      n__law_pattern := m__law_pattern.1,
      F__law_pattern := ⟨_, m__law_pattern.2, Fun.binds (ps := ["_law_box_here", "_law_low", "_law_high"]) m__law_pattern.2 fun _ _ _ _ _ _ us hl => match us, hl with | [_, _, _], _ => rfl⟩,
      n__law_log := m__law_log.1,
      F__law_log := ⟨_, m__law_log.2, Fun.binds (ps := ["_law_box_here", "_law_size_here"]) m__law_log.2 fun _ _ _ _ _ _ us hl => match us, hl with | [_, _], _ => rfl⟩,
      n__law_first_late := m__law_first_late.1,
      F__law_first_late := ⟨_, m__law_first_late.2, Fun.binds (ps := ["_law_size_here", "_law_log_here"]) m__law_first_late.2 fun _ _ _ _ _ _ us hl => match us, hl with | [_, _], _ => rfl⟩,
      n__law_after := m__law_after.1,
      F__law_after := ⟨_, m__law_after.2, Fun.binds (ps := ["_law_size_here", "_law_log_here"]) m__law_after.2 fun _ _ _ _ _ _ us hl => match us, hl with | [_, _], _ => rfl⟩,
      n__law_states := m__law_states.1,
      F__law_states := ⟨_, m__law_states.2, Fun.binds (ps := ["_law_size_here", "_law_book"]) m__law_states.2 fun _ _ _ _ _ _ us hl => match us, hl with | [_, _], _ => rfl⟩,
      n__law_integer := m__law_integer.1,
      F__law_integer := ⟨_, m__law_integer.2, Fun.binds (ps := ["_law_told"]) m__law_integer.2 fun _ _ _ _ _ _ us hl => match us, hl with | [_], _ => rfl⟩,
      n__law_row := m__law_row.1,
      F__law_row := ⟨_, m__law_row.2, Fun.binds (ps := ["_law_told", "_law_due"]) m__law_row.2 fun _ _ _ _ _ _ us hl => match us, hl with | [_, _], _ => rfl⟩,
      n__law_texts := m__law_texts.1,
      F__law_texts := ⟨_, m__law_texts.2, Fun.binds (ps := ["_law_told", "_law_due"]) m__law_texts.2 fun _ _ _ _ _ _ us hl => match us, hl with | [_, _], _ => rfl⟩,
      n__law_is_pair := m__law_is_pair.1,
      F__law_is_pair := ⟨_, m__law_is_pair.2, Fun.binds (ps := ["_law_told", "_law_many", "_law_size_here"]) m__law_is_pair.2 fun _ _ _ _ _ _ us hl => match us, hl with | [_, _, _], _ => rfl⟩,
      n__law_told_gaps := m__law_told_gaps.1,
      F__law_told_gaps := ⟨_, m__law_told_gaps.2, Fun.binds (ps := ["_law_told", "_law_many", "_law_size_here"]) m__law_told_gaps.2 fun _ _ _ _ _ _ us hl => match us, hl with | [_, _, _], _ => rfl⟩,
      n__law_complete := m__law_complete.1,
      F__law_complete := ⟨_, m__law_complete.2, Fun.binds (ps := ["_law_size_here", "_law_log_here"]) m__law_complete.2 fun _ _ _ _ _ _ us hl => match us, hl with | [_, _], _ => rfl⟩,
      n__law_holders := m__law_holders.1,
      F__law_holders := ⟨_, m__law_holders.2, Fun.binds (ps := ["_law_size_here", "_law_states_here"]) m__law_holders.2 fun _ _ _ _ _ _ us hl => match us, hl with | [_, _], _ => rfl⟩,
      n__law_calm := m__law_calm.1,
      F__law_calm := ⟨_, m__law_calm.2, Fun.binds (ps := ["_law_size_here", "_law_log_here"]) m__law_calm.2 fun _ _ _ _ _ _ us hl => match us, hl with | [_, _], _ => rfl⟩,
      n_law := m_law.1,
      F_law := ⟨_, m_law.2, Fun.binds (ps := ["_law_script"]) m_law.2 fun _ _ _ _ _ _ us hl => match us, hl with | [_], _ => rfl⟩,
      c_Links := PySem.W.mg_of X G a_Links,
      cl_Links := cl_Links,
      rd_Links := rd_Links,
      mk_Links := ⟨mk1_Links, mk2_Links, mk3_Links, mk4_Links⟩,
      na_Links_size := na_Links_size,
      na_Links__lefts := na_Links__lefts,
      na_Links__rights := na_Links__rights,
      na_Links__flags := na_Links__flags,
      cv_Links_MOST := ⟨_, cv_Links_MOST, ⟨_, rfl⟩⟩,
      F_Links___init__ := ⟨_, mm_Links___init__, Fun.binds (ps := ["self", "size"]) mm_Links___init__ fun _ _ _ _ _ _ us hl => match us, hl with | [_, _], _ => rfl⟩,
      me_Links_left := ⟨me1_Links_left, me2_Links_left, k_Links_left⟩,
      F_Links_left := ⟨_, mm_Links_left, Fun.binds (ps := ["self", "node"]) mm_Links_left fun _ _ _ _ _ _ us hl => match us, hl with | [_, _], _ => rfl⟩,
      me_Links_right := ⟨me1_Links_right, me2_Links_right, k_Links_right⟩,
      F_Links_right := ⟨_, mm_Links_right, Fun.binds (ps := ["self", "node"]) mm_Links_right fun _ _ _ _ _ _ us hl => match us, hl with | [_, _], _ => rfl⟩,
      me_Links_is_out := ⟨me1_Links_is_out, me2_Links_is_out, k_Links_is_out⟩,
      F_Links_is_out := ⟨_, mm_Links_is_out, Fun.binds (ps := ["self", "node"]) mm_Links_is_out fun _ _ _ _ _ _ us hl => match us, hl with | [_, _], _ => rfl⟩,
      me_Links_outs := ⟨me1_Links_outs, me2_Links_outs, k_Links_outs⟩,
      F_Links_outs := ⟨_, mm_Links_outs, Fun.binds (ps := ["self"]) mm_Links_outs fun _ _ _ _ _ _ us hl => match us, hl with | [_], _ => rfl⟩,
      me_Links_apply := ⟨me1_Links_apply, me2_Links_apply, k_Links_apply⟩,
      F_Links_apply := ⟨_, mm_Links_apply, Fun.binds (ps := ["self", "operation"]) mm_Links_apply fun _ _ _ _ _ _ us hl => match us, hl with | [_, _], _ => rfl⟩,
      me_Links_apply_at := ⟨me1_Links_apply_at, me2_Links_apply_at, k_Links_apply_at⟩,
      F_Links_apply_at := ⟨_, mm_Links_apply_at, Fun.binds (ps := ["self", "operation", "index"]) mm_Links_apply_at fun _ _ _ _ _ _ us hl => match us, hl with | [_, _, _], _ => rfl⟩,
      me_Links_is_sound := ⟨me1_Links_is_sound, me2_Links_is_sound, k_Links_is_sound⟩,
      F_Links_is_sound := ⟨_, mm_Links_is_sound, Fun.binds (ps := ["self"]) mm_Links_is_sound fun _ _ _ _ _ _ us hl => match us, hl with | [_], _ => rfl⟩,
      me_Links_is_whole := ⟨me1_Links_is_whole, me2_Links_is_whole, k_Links_is_whole⟩,
      F_Links_is_whole := ⟨_, mm_Links_is_whole, Fun.binds (ps := ["self"]) mm_Links_is_whole fun _ _ _ _ _ _ us hl => match us, hl with | [_], _ => rfl⟩,
      c_LinkError := PySem.W.mg_of X G a_LinkError,
      c_LogError := PySem.W.mg_of X G a_LogError,
      c_BadOperation := PySem.W.mg_of X G a_BadOperation,
      x_BadOperation := x_BadOperation,
      e_BadOperation := e_BadOperation,
      c_Illegal := PySem.W.mg_of X G a_Illegal,
      x_Illegal := x_Illegal,
      e_Illegal := e_Illegal,
      c_BadSize := PySem.W.mg_of X G a_BadSize,
      x_BadSize := x_BadSize,
      e_BadSize := e_BadSize,
      c_BadNode := PySem.W.mg_of X G a_BadNode,
      x_BadNode := x_BadNode,
      e_BadNode := e_BadNode,
      c_BadGap := PySem.W.mg_of X G a_BadGap,
      x_BadGap := x_BadGap,
      e_BadGap := e_BadGap,
      c_BadDump := PySem.W.mg_of X G a_BadDump,
      x_BadDump := x_BadDump,
      e_BadDump := e_BadDump,
      c_NotRepairable := PySem.W.mg_of X G a_NotRepairable,
      x_NotRepairable := x_NotRepairable,
      e_NotRepairable := e_NotRepairable,
      c_NotOnce := PySem.W.mg_of X G a_NotOnce,
      x_NotOnce := x_NotOnce,
      e_NotOnce := e_NotOnce,
      t_BadOperation_LinkError := kit_mk d_LinkError s_BadOperation_BadOperation s_BadOperation_LinkError,
      t_BadOperation_LogError := kit_mk d_LogError s_BadOperation_BadOperation s_BadOperation_LogError,
      t_BadOperation_BadOperation := kit_mk d_BadOperation s_BadOperation_BadOperation s_BadOperation_BadOperation,
      t_BadOperation_Illegal := kit_mk d_Illegal s_BadOperation_BadOperation s_BadOperation_Illegal,
      t_BadOperation_BadSize := kit_mk d_BadSize s_BadOperation_BadOperation s_BadOperation_BadSize,
      t_BadOperation_BadNode := kit_mk d_BadNode s_BadOperation_BadOperation s_BadOperation_BadNode,
      t_BadOperation_BadGap := kit_mk d_BadGap s_BadOperation_BadOperation s_BadOperation_BadGap,
      t_BadOperation_BadDump := kit_mk d_BadDump s_BadOperation_BadOperation s_BadOperation_BadDump,
      t_BadOperation_NotRepairable := kit_mk d_NotRepairable s_BadOperation_BadOperation s_BadOperation_NotRepairable,
      t_BadOperation_NotOnce := kit_mk d_NotOnce s_BadOperation_BadOperation s_BadOperation_NotOnce,
      v_BadOperation := kit_val x_BadOperation.vE,
      t_Illegal_LinkError := kit_mk d_LinkError s_Illegal_Illegal s_Illegal_LinkError,
      t_Illegal_LogError := kit_mk d_LogError s_Illegal_Illegal s_Illegal_LogError,
      t_Illegal_BadOperation := kit_mk d_BadOperation s_Illegal_Illegal s_Illegal_BadOperation,
      t_Illegal_Illegal := kit_mk d_Illegal s_Illegal_Illegal s_Illegal_Illegal,
      t_Illegal_BadSize := kit_mk d_BadSize s_Illegal_Illegal s_Illegal_BadSize,
      t_Illegal_BadNode := kit_mk d_BadNode s_Illegal_Illegal s_Illegal_BadNode,
      t_Illegal_BadGap := kit_mk d_BadGap s_Illegal_Illegal s_Illegal_BadGap,
      t_Illegal_BadDump := kit_mk d_BadDump s_Illegal_Illegal s_Illegal_BadDump,
      t_Illegal_NotRepairable := kit_mk d_NotRepairable s_Illegal_Illegal s_Illegal_NotRepairable,
      t_Illegal_NotOnce := kit_mk d_NotOnce s_Illegal_Illegal s_Illegal_NotOnce,
      v_Illegal := kit_val x_Illegal.vE,
      t_BadSize_LinkError := kit_mk d_LinkError s_BadSize_BadSize s_BadSize_LinkError,
      t_BadSize_LogError := kit_mk d_LogError s_BadSize_BadSize s_BadSize_LogError,
      t_BadSize_BadOperation := kit_mk d_BadOperation s_BadSize_BadSize s_BadSize_BadOperation,
      t_BadSize_Illegal := kit_mk d_Illegal s_BadSize_BadSize s_BadSize_Illegal,
      t_BadSize_BadSize := kit_mk d_BadSize s_BadSize_BadSize s_BadSize_BadSize,
      t_BadSize_BadNode := kit_mk d_BadNode s_BadSize_BadSize s_BadSize_BadNode,
      t_BadSize_BadGap := kit_mk d_BadGap s_BadSize_BadSize s_BadSize_BadGap,
      t_BadSize_BadDump := kit_mk d_BadDump s_BadSize_BadSize s_BadSize_BadDump,
      t_BadSize_NotRepairable := kit_mk d_NotRepairable s_BadSize_BadSize s_BadSize_NotRepairable,
      t_BadSize_NotOnce := kit_mk d_NotOnce s_BadSize_BadSize s_BadSize_NotOnce,
      v_BadSize := kit_val x_BadSize.vE,
      t_BadNode_LinkError := kit_mk d_LinkError s_BadNode_BadNode s_BadNode_LinkError,
      t_BadNode_LogError := kit_mk d_LogError s_BadNode_BadNode s_BadNode_LogError,
      t_BadNode_BadOperation := kit_mk d_BadOperation s_BadNode_BadNode s_BadNode_BadOperation,
      t_BadNode_Illegal := kit_mk d_Illegal s_BadNode_BadNode s_BadNode_Illegal,
      t_BadNode_BadSize := kit_mk d_BadSize s_BadNode_BadNode s_BadNode_BadSize,
      t_BadNode_BadNode := kit_mk d_BadNode s_BadNode_BadNode s_BadNode_BadNode,
      t_BadNode_BadGap := kit_mk d_BadGap s_BadNode_BadNode s_BadNode_BadGap,
      t_BadNode_BadDump := kit_mk d_BadDump s_BadNode_BadNode s_BadNode_BadDump,
      t_BadNode_NotRepairable := kit_mk d_NotRepairable s_BadNode_BadNode s_BadNode_NotRepairable,
      t_BadNode_NotOnce := kit_mk d_NotOnce s_BadNode_BadNode s_BadNode_NotOnce,
      v_BadNode := kit_val x_BadNode.vE,
      t_BadGap_LinkError := kit_mk d_LinkError s_BadGap_BadGap s_BadGap_LinkError,
      t_BadGap_LogError := kit_mk d_LogError s_BadGap_BadGap s_BadGap_LogError,
      t_BadGap_BadOperation := kit_mk d_BadOperation s_BadGap_BadGap s_BadGap_BadOperation,
      t_BadGap_Illegal := kit_mk d_Illegal s_BadGap_BadGap s_BadGap_Illegal,
      t_BadGap_BadSize := kit_mk d_BadSize s_BadGap_BadGap s_BadGap_BadSize,
      t_BadGap_BadNode := kit_mk d_BadNode s_BadGap_BadGap s_BadGap_BadNode,
      t_BadGap_BadGap := kit_mk d_BadGap s_BadGap_BadGap s_BadGap_BadGap,
      t_BadGap_BadDump := kit_mk d_BadDump s_BadGap_BadGap s_BadGap_BadDump,
      t_BadGap_NotRepairable := kit_mk d_NotRepairable s_BadGap_BadGap s_BadGap_NotRepairable,
      t_BadGap_NotOnce := kit_mk d_NotOnce s_BadGap_BadGap s_BadGap_NotOnce,
      v_BadGap := kit_val x_BadGap.vE,
      t_BadDump_LinkError := kit_mk d_LinkError s_BadDump_BadDump s_BadDump_LinkError,
      t_BadDump_LogError := kit_mk d_LogError s_BadDump_BadDump s_BadDump_LogError,
      t_BadDump_BadOperation := kit_mk d_BadOperation s_BadDump_BadDump s_BadDump_BadOperation,
      t_BadDump_Illegal := kit_mk d_Illegal s_BadDump_BadDump s_BadDump_Illegal,
      t_BadDump_BadSize := kit_mk d_BadSize s_BadDump_BadDump s_BadDump_BadSize,
      t_BadDump_BadNode := kit_mk d_BadNode s_BadDump_BadDump s_BadDump_BadNode,
      t_BadDump_BadGap := kit_mk d_BadGap s_BadDump_BadDump s_BadDump_BadGap,
      t_BadDump_BadDump := kit_mk d_BadDump s_BadDump_BadDump s_BadDump_BadDump,
      t_BadDump_NotRepairable := kit_mk d_NotRepairable s_BadDump_BadDump s_BadDump_NotRepairable,
      t_BadDump_NotOnce := kit_mk d_NotOnce s_BadDump_BadDump s_BadDump_NotOnce,
      v_BadDump := kit_val x_BadDump.vE,
      t_NotRepairable_LinkError := kit_mk d_LinkError s_NotRepairable_NotRepairable s_NotRepairable_LinkError,
      t_NotRepairable_LogError := kit_mk d_LogError s_NotRepairable_NotRepairable s_NotRepairable_LogError,
      t_NotRepairable_BadOperation := kit_mk d_BadOperation s_NotRepairable_NotRepairable s_NotRepairable_BadOperation,
      t_NotRepairable_Illegal := kit_mk d_Illegal s_NotRepairable_NotRepairable s_NotRepairable_Illegal,
      t_NotRepairable_BadSize := kit_mk d_BadSize s_NotRepairable_NotRepairable s_NotRepairable_BadSize,
      t_NotRepairable_BadNode := kit_mk d_BadNode s_NotRepairable_NotRepairable s_NotRepairable_BadNode,
      t_NotRepairable_BadGap := kit_mk d_BadGap s_NotRepairable_NotRepairable s_NotRepairable_BadGap,
      t_NotRepairable_BadDump := kit_mk d_BadDump s_NotRepairable_NotRepairable s_NotRepairable_BadDump,
      t_NotRepairable_NotRepairable := kit_mk d_NotRepairable s_NotRepairable_NotRepairable s_NotRepairable_NotRepairable,
      t_NotRepairable_NotOnce := kit_mk d_NotOnce s_NotRepairable_NotRepairable s_NotRepairable_NotOnce,
      v_NotRepairable := kit_val x_NotRepairable.vE,
      t_NotOnce_LinkError := kit_mk d_LinkError s_NotOnce_NotOnce s_NotOnce_LinkError,
      t_NotOnce_LogError := kit_mk d_LogError s_NotOnce_NotOnce s_NotOnce_LogError,
      t_NotOnce_BadOperation := kit_mk d_BadOperation s_NotOnce_NotOnce s_NotOnce_BadOperation,
      t_NotOnce_Illegal := kit_mk d_Illegal s_NotOnce_NotOnce s_NotOnce_Illegal,
      t_NotOnce_BadSize := kit_mk d_BadSize s_NotOnce_NotOnce s_NotOnce_BadSize,
      t_NotOnce_BadNode := kit_mk d_BadNode s_NotOnce_NotOnce s_NotOnce_BadNode,
      t_NotOnce_BadGap := kit_mk d_BadGap s_NotOnce_NotOnce s_NotOnce_BadGap,
      t_NotOnce_BadDump := kit_mk d_BadDump s_NotOnce_NotOnce s_NotOnce_BadDump,
      t_NotOnce_NotRepairable := kit_mk d_NotRepairable s_NotOnce_NotOnce s_NotOnce_NotRepairable,
      t_NotOnce_NotOnce := kit_mk d_NotOnce s_NotOnce_NotOnce s_NotOnce_NotOnce,
      v_NotOnce := kit_val x_NotOnce.vE,
      b_ValueError := PySem.W.mg_none_of X G b_ValueError,
      b_enumerate := PySem.W.mg_none_of X G b_enumerate,
      b_range := PySem.W.mg_none_of X G b_range,
      b_sum := PySem.W.mg_none_of X G b_sum,
      b_abs := PySem.W.mg_none_of X G b_abs,
      b_max := PySem.W.mg_none_of X G b_max,
      b_len := PySem.W.mg_none_of X G b_len,
      b_list := PySem.W.mg_none_of X G b_list,
      b_int := PySem.W.mg_none_of X G b_int,
      b_min := PySem.W.mg_none_of X G b_min,
      b_isinstance := PySem.W.mg_none_of X G b_isinstance,
      b_str := PySem.W.mg_none_of X G b_str,
      b_bool := PySem.W.mg_none_of X G b_bool,
      b_tuple := PySem.W.mg_none_of X G b_tuple,
      b_super := PySem.W.mg_none_of X G b_super,
      k_MOST_NODES := ⟨_, PySem.W.mg_of X G k_MOST_NODES⟩,
      k_MOST_DIGITS := ⟨_, PySem.W.mg_of X G k_MOST_DIGITS⟩,
      k_PARTS := ⟨_, PySem.W.mg_of X G k_PARTS⟩ }
  refine ⟨PySem.W.fnOf "law" "law" (defArgs s_law) (defBody s_law) (defScope s_law) .none kV_law dc_law pm_law an_law cd_law ct_law, fun s v => .of_eq rfl, fun base _ _ => ?_⟩
  have G__law_box := ok__law_box (w := w) (base := base) T
  have G__law_mixed := ok__law_mixed (w := w) (base := base) T
  have G__law_take := ok__law_take (w := w) (base := base) T G__law_mixed
  have G__law_size := ok__law_size (w := w) (base := base) T G__law_take
  have G__law_range := ok__law_range (w := w) (base := base) T G__law_take
  have G__law_pattern := ok__law_pattern (w := w) (base := base) T G__law_take
  have G__law_start := ok__law_start (w := w) (base := base) T
  have G__law_late := ok__law_late (w := w) (base := base) T
  have G__law_step := ok__law_step (w := w) (base := base) T
  have G__law_log := ok__law_log (w := w) (base := base) T G__law_range G__law_take G__law_pattern G__law_start G__law_late G__law_step
  have G__law_states := ok__law_states (w := w) (base := base) T
  have G__law_after := ok__law_after (w := w) (base := base) T G__law_start G__law_step
  have G__law_integer := ok__law_integer (w := w) (base := base) T
  have G__law_is_pair := ok__law_is_pair (w := w) (base := base) T G__law_integer
  have G__law_told_gaps := ok__law_told_gaps (w := w) (base := base) T G__law_is_pair
  have G_check_size := ok_check_size (w := w) (base := base) T
  have G_check_operation := ok_check_operation (w := w) (base := base) T
  have G__is_legal := ok__is_legal (w := w) (base := base) T
  have G_check_log := ok_check_log (w := w) (base := base) T G_check_size G_check_operation G__is_legal
  have G_check_once := ok_check_once (w := w) (base := base) T G_check_size G_check_log
  have G_Links___init__ := ok_Links___init__ (w := w) (base := base) T G_check_size
  have G_Links_left := ok_Links_left (w := w) (base := base) T
  have G_Links_right := ok_Links_right (w := w) (base := base) T
  have G_late_gaps := ok_late_gaps (w := w) (base := base) T G_Links_left G_Links_right
  have G_Links_apply_at := ok_Links_apply_at (w := w) (base := base) T G_check_operation
  have G_Links_apply := ok_Links_apply (w := w) (base := base) T G_Links_apply_at
  have G_late_writes := ok_late_writes (w := w) (base := base) T G_check_once G_Links___init__ G_late_gaps G_Links_apply
  have G_replay := ok_replay (w := w) (base := base) T G_Links___init__ G_Links_apply_at
  have G__law_texts := ok__law_texts (w := w) (base := base) T
  have G_check_gap := ok_check_gap (w := w) (base := base) T
  have G_left_holds := ok_left_holds (w := w) (base := base) T G_Links_right
  have G_right_holds := ok_right_holds (w := w) (base := base) T G_Links_left
  have G_gap_state := ok_gap_state (w := w) (base := base) T G_check_gap G_left_holds G_right_holds
  have G_gap_states := ok_gap_states (w := w) (base := base) T G_gap_state
  have G_Links_outs := ok_Links_outs (w := w) (base := base) T
  have G_is_complete := ok_is_complete (w := w) (base := base) T G_check_once G_Links_outs G_replay
  have G_Links_is_sound := ok_Links_is_sound (w := w) (base := base) T
  have G_Links_is_whole := ok_Links_is_whole (w := w) (base := base) T G_Links_outs G_Links_is_sound
  have G__law_complete := ok__law_complete (w := w) (base := base) T G__law_states G__law_after G__law_told_gaps G_late_writes G_replay G__law_texts G_gap_states G_is_complete G_Links_is_whole
  have G__law_first_late := ok__law_first_late (w := w) (base := base) T G__law_start G__law_late G__law_step
  have G__law_holders := ok__law_holders (w := w) (base := base) T
  have G__law_row := ok__law_row (w := w) (base := base) T G__law_integer
  have G_lost_gaps := ok_lost_gaps (w := w) (base := base) T G_gap_states
  have G_sole_holders := ok_sole_holders (w := w) (base := base) T G_gap_states
  have G_check_repairable := ok_check_repairable (w := w) (base := base) T G_lost_gaps
  have G_is_repairable := ok_is_repairable (w := w) (base := base) T G_lost_gaps
  have G_Links_is_out := ok_Links_is_out (w := w) (base := base) T
  have G__share := ok__share (w := w) (base := base) T G_Links_is_out
  have G_is_due := ok_is_due (w := w) (base := base) T G_Links_is_out G_gap_state
  have G_due_nodes := ok_due_nodes (w := w) (base := base) T G_is_due
  have G_settled_debt := ok_settled_debt (w := w) (base := base) T G_is_repairable G__share G_due_nodes
  have G_debt_of := ok_debt_of (w := w) (base := base) T G_check_repairable G_settled_debt
  have G__law_calm := ok__law_calm (w := w) (base := base) T G__law_after G__law_holders G__law_states G_late_writes G_replay G__law_row G_lost_gaps G_sole_holders G_debt_of G__law_integer G_Links_outs
  exact ok_law T m_law.2 G__law_box G__law_size G__law_log G__law_complete G__law_first_late G__law_take G__law_calm
end Lk
open PySem PySem.W PySem.Calls PyProof.Rows
set_option maxRecDepth 100000 in
set_option maxHeartbeats 0 in
theorem PySem.Challenge.cw_latelink_k23_whole_once_gaps_holds : PySem.Challenge.rw_latelink_k23_whole_once_gaps.Holds := by
  w_on; o_law; k_head; (case hw => w_witness2)
  k_fill
  refine L2.walk_of (l := PySem.Challenge.rw_latelink_k23_whole_once_gaps) (n := 63) (k := 11) (x := "_law_script") (CX := fun w => L2N.CX PySem.Challenge.rw_latelink_k23_whole_once_gaps.prog w) (sp := fun w => Lk.spL _) rfl (by decide) rfl ⟨rfl, by decide, by decide⟩ (fun w h Y => PySem.W.kIn_of Y) ?F (fun w H a ns hl hO hS => Lk.spL_ok hl hS) Lk.noCX
  case F =>
    intro w mg fa h KX G hmg
    refine' Lk.all_mk KX G hmg ?a_Links ?cl_Links ?rd_Links ?mk1_Links ?mk2_Links ?mk3_Links ?mk4_Links ?na_Links_size ?na_Links__lefts ?na_Links__rights ?na_Links__flags ?cv_Links_MOST ?l_Links___init__ ?c_Links___init__ ?k_Links___init__ ?me1_Links_left ?me2_Links_left ?l_Links_left ?c_Links_left ?k_Links_left ?me1_Links_right ?me2_Links_right ?l_Links_right ?c_Links_right ?k_Links_right ?me1_Links_is_out ?me2_Links_is_out ?l_Links_is_out ?c_Links_is_out ?k_Links_is_out ?me1_Links_outs ?me2_Links_outs ?l_Links_outs ?c_Links_outs ?k_Links_outs ?me1_Links_apply ?me2_Links_apply ?l_Links_apply ?c_Links_apply ?k_Links_apply ?me1_Links_apply_at ?me2_Links_apply_at ?l_Links_apply_at ?c_Links_apply_at ?k_Links_apply_at ?me1_Links_is_sound ?me2_Links_is_sound ?l_Links_is_sound ?c_Links_is_sound ?k_Links_is_sound ?me1_Links_is_whole ?me2_Links_is_whole ?l_Links_is_whole ?c_Links_is_whole ?k_Links_is_whole ?a_LinkError ?a_LogError ?a_BadOperation ?a_Illegal ?a_BadSize ?a_BadNode ?a_BadGap ?a_BadDump ?a_NotRepairable ?a_NotOnce ?d_LinkError ?d_LogError ?d_BadOperation ?d_Illegal ?d_BadSize ?d_BadNode ?d_BadGap ?d_BadDump ?d_NotRepairable ?d_NotOnce ?x_BadOperation ?e_BadOperation ?s_BadOperation_LinkError ?s_BadOperation_LogError ?s_BadOperation_BadOperation ?s_BadOperation_Illegal ?s_BadOperation_BadSize ?s_BadOperation_BadNode ?s_BadOperation_BadGap ?s_BadOperation_BadDump ?s_BadOperation_NotRepairable ?s_BadOperation_NotOnce ?x_Illegal ?e_Illegal ?s_Illegal_LinkError ?s_Illegal_LogError ?s_Illegal_BadOperation ?s_Illegal_Illegal ?s_Illegal_BadSize ?s_Illegal_BadNode ?s_Illegal_BadGap ?s_Illegal_BadDump ?s_Illegal_NotRepairable ?s_Illegal_NotOnce ?x_BadSize ?e_BadSize ?s_BadSize_LinkError ?s_BadSize_LogError ?s_BadSize_BadOperation ?s_BadSize_Illegal ?s_BadSize_BadSize ?s_BadSize_BadNode ?s_BadSize_BadGap ?s_BadSize_BadDump ?s_BadSize_NotRepairable ?s_BadSize_NotOnce ?x_BadNode ?e_BadNode ?s_BadNode_LinkError ?s_BadNode_LogError ?s_BadNode_BadOperation ?s_BadNode_Illegal ?s_BadNode_BadSize ?s_BadNode_BadNode ?s_BadNode_BadGap ?s_BadNode_BadDump ?s_BadNode_NotRepairable ?s_BadNode_NotOnce ?x_BadGap ?e_BadGap ?s_BadGap_LinkError ?s_BadGap_LogError ?s_BadGap_BadOperation ?s_BadGap_Illegal ?s_BadGap_BadSize ?s_BadGap_BadNode ?s_BadGap_BadGap ?s_BadGap_BadDump ?s_BadGap_NotRepairable ?s_BadGap_NotOnce ?x_BadDump ?e_BadDump ?s_BadDump_LinkError ?s_BadDump_LogError ?s_BadDump_BadOperation ?s_BadDump_Illegal ?s_BadDump_BadSize ?s_BadDump_BadNode ?s_BadDump_BadGap ?s_BadDump_BadDump ?s_BadDump_NotRepairable ?s_BadDump_NotOnce ?x_NotRepairable ?e_NotRepairable ?s_NotRepairable_LinkError ?s_NotRepairable_LogError ?s_NotRepairable_BadOperation ?s_NotRepairable_Illegal ?s_NotRepairable_BadSize ?s_NotRepairable_BadNode ?s_NotRepairable_BadGap ?s_NotRepairable_BadDump ?s_NotRepairable_NotRepairable ?s_NotRepairable_NotOnce ?x_NotOnce ?e_NotOnce ?s_NotOnce_LinkError ?s_NotOnce_LogError ?s_NotOnce_BadOperation ?s_NotOnce_Illegal ?s_NotOnce_BadSize ?s_NotOnce_BadNode ?s_NotOnce_BadGap ?s_NotOnce_BadDump ?s_NotOnce_NotRepairable ?s_NotOnce_NotOnce ?a_check_size ?l_check_size ?c_check_size ?k_check_size ?a_check_operation ?l_check_operation ?c_check_operation ?k_check_operation ?a_check_log ?l_check_log ?c_check_log ?k_check_log ?a__is_legal ?l__is_legal ?c__is_legal ?k__is_legal ?a_replay ?l_replay ?c_replay ?k_replay ?a_check_once ?l_check_once ?c_check_once ?k_check_once ?a_late_gaps ?l_late_gaps ?c_late_gaps ?k_late_gaps ?a_late_writes ?l_late_writes ?c_late_writes ?k_late_writes ?a_is_complete ?l_is_complete ?c_is_complete ?k_is_complete ?a_check_gap ?l_check_gap ?c_check_gap ?k_check_gap ?a_left_holds ?l_left_holds ?c_left_holds ?k_left_holds ?a_right_holds ?l_right_holds ?c_right_holds ?k_right_holds ?a_gap_state ?l_gap_state ?c_gap_state ?k_gap_state ?a_gap_states ?l_gap_states ?c_gap_states ?k_gap_states ?a_lost_gaps ?l_lost_gaps ?c_lost_gaps ?k_lost_gaps ?a_sole_holders ?l_sole_holders ?c_sole_holders ?k_sole_holders ?a_check_repairable ?l_check_repairable ?c_check_repairable ?k_check_repairable ?a_is_due ?l_is_due ?c_is_due ?k_is_due ?a__share ?l__share ?c__share ?k__share ?a_is_repairable ?l_is_repairable ?c_is_repairable ?k_is_repairable ?a_due_nodes ?l_due_nodes ?c_due_nodes ?k_due_nodes ?a_settled_debt ?l_settled_debt ?c_settled_debt ?k_settled_debt ?a_debt_of ?l_debt_of ?c_debt_of ?k_debt_of ?a__law_mixed ?l__law_mixed ?c__law_mixed ?k__law_mixed ?a__law_box ?l__law_box ?c__law_box ?k__law_box ?a__law_take ?l__law_take ?c__law_take ?k__law_take ?a__law_size ?l__law_size ?c__law_size ?k__law_size ?a__law_range ?l__law_range ?c__law_range ?k__law_range ?a__law_start ?l__law_start ?c__law_start ?k__law_start ?a__law_late ?l__law_late ?c__law_late ?k__law_late ?a__law_step ?l__law_step ?c__law_step ?k__law_step ?a__law_pattern ?l__law_pattern ?c__law_pattern ?k__law_pattern ?a__law_log ?l__law_log ?c__law_log ?k__law_log ?a__law_first_late ?l__law_first_late ?c__law_first_late ?k__law_first_late ?a__law_after ?l__law_after ?c__law_after ?k__law_after ?a__law_states ?l__law_states ?c__law_states ?k__law_states ?a__law_integer ?l__law_integer ?c__law_integer ?k__law_integer ?a__law_row ?l__law_row ?c__law_row ?k__law_row ?a__law_texts ?l__law_texts ?c__law_texts ?k__law_texts ?a__law_is_pair ?l__law_is_pair ?c__law_is_pair ?k__law_is_pair ?a__law_told_gaps ?l__law_told_gaps ?c__law_told_gaps ?k__law_told_gaps ?a__law_complete ?l__law_complete ?c__law_complete ?k__law_complete ?a__law_holders ?l__law_holders ?c__law_holders ?k__law_holders ?a__law_calm ?l__law_calm ?c__law_calm ?k__law_calm ?a_law ?l_law ?c_law ?k_law ?b_ValueError ?b_enumerate ?b_range ?b_sum ?b_abs ?b_max ?b_len ?b_list ?b_int ?b_min ?b_isinstance ?b_str ?b_bool ?b_tuple ?b_super ?k_MOST_NODES ?k_MOST_DIGITS ?k_PARTS
    (case a_Links => k_is)
    (case cl_Links => refine ⟨?_, ?_, ?_, ?_⟩ <;> k_is)
    (case rd_Links => refine ⟨?_, ?_⟩ <;> k_is)
    (case mk1_Links => k_is)
    (case mk2_Links => k_is)
    (case mk3_Links => k_is)
    (case mk4_Links => k_is)
    (case na_Links_size => show PySem.W.findIn _ (.ref _) "size" = some none; k_is)
    (case na_Links__lefts => show PySem.W.findIn _ (.ref _) "_lefts" = some none; k_is)
    (case na_Links__rights => show PySem.W.findIn _ (.ref _) "_rights" = some none; k_is)
    (case na_Links__flags => show PySem.W.findIn _ (.ref _) "_flags" = some none; k_is)
    (case cv_Links_MOST => k_is)
    (case l_Links___init__ => k_is)
    (case c_Links___init__ => k_is)
    (case k_Links___init__ => k_is)
    (case me1_Links_left => k_is)
    (case me2_Links_left => k_is)
    (case l_Links_left => k_is)
    (case c_Links_left => k_is)
    (case k_Links_left => k_is)
    (case me1_Links_right => k_is)
    (case me2_Links_right => k_is)
    (case l_Links_right => k_is)
    (case c_Links_right => k_is)
    (case k_Links_right => k_is)
    (case me1_Links_is_out => k_is)
    (case me2_Links_is_out => k_is)
    (case l_Links_is_out => k_is)
    (case c_Links_is_out => k_is)
    (case k_Links_is_out => k_is)
    (case me1_Links_outs => k_is)
    (case me2_Links_outs => k_is)
    (case l_Links_outs => k_is)
    (case c_Links_outs => k_is)
    (case k_Links_outs => k_is)
    (case me1_Links_apply => k_is)
    (case me2_Links_apply => k_is)
    (case l_Links_apply => k_is)
    (case c_Links_apply => k_is)
    (case k_Links_apply => k_is)
    (case me1_Links_apply_at => k_is)
    (case me2_Links_apply_at => k_is)
    (case l_Links_apply_at => k_is)
    (case c_Links_apply_at => k_is)
    (case k_Links_apply_at => k_is)
    (case me1_Links_is_sound => k_is)
    (case me2_Links_is_sound => k_is)
    (case l_Links_is_sound => k_is)
    (case c_Links_is_sound => k_is)
    (case k_Links_is_sound => k_is)
    (case me1_Links_is_whole => k_is)
    (case me2_Links_is_whole => k_is)
    (case l_Links_is_whole => k_is)
    (case c_Links_is_whole => k_is)
    (case k_Links_is_whole => k_is)
    (case a_LinkError => k_is)
    (case a_LogError => k_is)
    (case a_BadOperation => k_is)
    (case a_Illegal => k_is)
    (case a_BadSize => k_is)
    (case a_BadNode => k_is)
    (case a_BadGap => k_is)
    (case a_BadDump => k_is)
    (case a_NotRepairable => k_is)
    (case a_NotOnce => k_is)
    (case d_LinkError => refine ⟨?_, ?_, ?_⟩ <;> k_is)
    (case d_LogError => refine ⟨?_, ?_, ?_⟩ <;> k_is)
    (case d_BadOperation => refine ⟨?_, ?_, ?_⟩ <;> k_is)
    (case d_Illegal => refine ⟨?_, ?_, ?_⟩ <;> k_is)
    (case d_BadSize => refine ⟨?_, ?_, ?_⟩ <;> k_is)
    (case d_BadNode => refine ⟨?_, ?_, ?_⟩ <;> k_is)
    (case d_BadGap => refine ⟨?_, ?_, ?_⟩ <;> k_is)
    (case d_BadDump => refine ⟨?_, ?_, ?_⟩ <;> k_is)
    (case d_NotRepairable => refine ⟨?_, ?_, ?_⟩ <;> k_is)
    (case d_NotOnce => refine ⟨?_, ?_, ?_⟩ <;> k_is)
    case x_BadOperation =>
      refine' LkX.exc_mk (st := Lk.s_BadOperation___init__) (qual := "BadOperation.__init__") ?p1 ?p2 ?p3 ?p4 ?p5 ?p6 ?p7 ?p8 ?p9 ?q1 ?q2 ?q3 ?q4 ?q5 ?q6 ?q7 ?q8 ?r1 ?r2 ⟨_, _, _, _, _, _, _, _, _, rfl, rfl, (.cons (.cons .nil))⟩ rfl rfl rfl rfl rfl (by decide +kernel) (by decide +kernel) rfl rfl rfl (fun us hl => match us, hl with | [_, _, _], _ => rfl) (by decide +kernel) (by decide +kernel) (by decide)
      (case p1 => k_is)
      (case p2 => k_is)
      (case p3 => k_is)
      (case p4 => k_is)
      (case p5 => k_is)
      (case p6 => k_is)
      (case p7 => k_is)
      (case p8 => k_is)
      (case p9 => k_is)
      (case q1 => k_is)
      (case q2 => k_is)
      (case q3 => k_is)
      (case q4 => k_is)
      (case q5 => k_is)
      (case q6 => kernel_rfl)
      (case q7 => decide +kernel)
      (case q8 => refine Lk.all_in ?_; refine ⟨?_, ?_⟩; (· k_is); refine ⟨?_, ?_⟩; (· k_is); exact trivial)
      (case r1 => rfl)
      (case r2 => kernel_rfl)
    (case e_BadOperation => refine Lk.exc_ef ?_ ?_ ?_ ?_ ?_ ?_ ?_ ?_ <;> k_is)
    (case s_BadOperation_LinkError => k_is)
    (case s_BadOperation_LogError => k_is)
    (case s_BadOperation_BadOperation => k_is)
    (case s_BadOperation_Illegal => k_is)
    (case s_BadOperation_BadSize => k_is)
    (case s_BadOperation_BadNode => k_is)
    (case s_BadOperation_BadGap => k_is)
    (case s_BadOperation_BadDump => k_is)
    (case s_BadOperation_NotRepairable => k_is)
    (case s_BadOperation_NotOnce => k_is)
    case x_Illegal =>
      refine' LkX.exc_mk (st := Lk.s_Illegal___init__) (qual := "Illegal.__init__") ?p1 ?p2 ?p3 ?p4 ?p5 ?p6 ?p7 ?p8 ?p9 ?q1 ?q2 ?q3 ?q4 ?q5 ?q6 ?q7 ?q8 ?r1 ?r2 ⟨_, _, _, _, _, _, _, _, _, rfl, rfl, (.cons (.cons .nil))⟩ rfl rfl rfl rfl rfl (by decide +kernel) (by decide +kernel) rfl rfl rfl (fun us hl => match us, hl with | [_, _, _], _ => rfl) (by decide +kernel) (by decide +kernel) (by decide)
      (case p1 => k_is)
      (case p2 => k_is)
      (case p3 => k_is)
      (case p4 => k_is)
      (case p5 => k_is)
      (case p6 => k_is)
      (case p7 => k_is)
      (case p8 => k_is)
      (case p9 => k_is)
      (case q1 => k_is)
      (case q2 => k_is)
      (case q3 => k_is)
      (case q4 => k_is)
      (case q5 => k_is)
      (case q6 => kernel_rfl)
      (case q7 => decide +kernel)
      (case q8 => refine Lk.all_in ?_; refine ⟨?_, ?_⟩; (· k_is); refine ⟨?_, ?_⟩; (· k_is); exact trivial)
      (case r1 => rfl)
      (case r2 => kernel_rfl)
    (case e_Illegal => refine Lk.exc_ef ?_ ?_ ?_ ?_ ?_ ?_ ?_ ?_ <;> k_is)
    (case s_Illegal_LinkError => k_is)
    (case s_Illegal_LogError => k_is)
    (case s_Illegal_BadOperation => k_is)
    (case s_Illegal_Illegal => k_is)
    (case s_Illegal_BadSize => k_is)
    (case s_Illegal_BadNode => k_is)
    (case s_Illegal_BadGap => k_is)
    (case s_Illegal_BadDump => k_is)
    (case s_Illegal_NotRepairable => k_is)
    (case s_Illegal_NotOnce => k_is)
    case x_BadSize =>
      refine' LkX.exc_mk (st := Lk.s_BadSize___init__) (qual := "BadSize.__init__") ?p1 ?p2 ?p3 ?p4 ?p5 ?p6 ?p7 ?p8 ?p9 ?q1 ?q2 ?q3 ?q4 ?q5 ?q6 ?q7 ?q8 ?r1 ?r2 ⟨_, _, _, _, _, _, _, _, _, rfl, rfl, (.cons .nil)⟩ rfl rfl rfl rfl rfl (by decide +kernel) (by decide +kernel) rfl rfl rfl (fun us hl => match us, hl with | [_, _], _ => rfl) (by decide +kernel) (by decide +kernel) (by decide)
      (case p1 => k_is)
      (case p2 => k_is)
      (case p3 => k_is)
      (case p4 => k_is)
      (case p5 => k_is)
      (case p6 => k_is)
      (case p7 => k_is)
      (case p8 => k_is)
      (case p9 => k_is)
      (case q1 => k_is)
      (case q2 => k_is)
      (case q3 => k_is)
      (case q4 => k_is)
      (case q5 => k_is)
      (case q6 => kernel_rfl)
      (case q7 => decide +kernel)
      (case q8 => refine Lk.all_in ?_; refine ⟨?_, ?_⟩; (· k_is); exact trivial)
      (case r1 => rfl)
      (case r2 => kernel_rfl)
    (case e_BadSize => refine Lk.exc_ef ?_ ?_ ?_ ?_ ?_ ?_ ?_ ?_ <;> k_is)
    (case s_BadSize_LinkError => k_is)
    (case s_BadSize_LogError => k_is)
    (case s_BadSize_BadOperation => k_is)
    (case s_BadSize_Illegal => k_is)
    (case s_BadSize_BadSize => k_is)
    (case s_BadSize_BadNode => k_is)
    (case s_BadSize_BadGap => k_is)
    (case s_BadSize_BadDump => k_is)
    (case s_BadSize_NotRepairable => k_is)
    (case s_BadSize_NotOnce => k_is)
    case x_BadNode =>
      refine' LkX.exc_mk (st := Lk.s_BadNode___init__) (qual := "BadNode.__init__") ?p1 ?p2 ?p3 ?p4 ?p5 ?p6 ?p7 ?p8 ?p9 ?q1 ?q2 ?q3 ?q4 ?q5 ?q6 ?q7 ?q8 ?r1 ?r2 ⟨_, _, _, _, _, _, _, _, _, rfl, rfl, (.cons .nil)⟩ rfl rfl rfl rfl rfl (by decide +kernel) (by decide +kernel) rfl rfl rfl (fun us hl => match us, hl with | [_, _], _ => rfl) (by decide +kernel) (by decide +kernel) (by decide)
      (case p1 => k_is)
      (case p2 => k_is)
      (case p3 => k_is)
      (case p4 => k_is)
      (case p5 => k_is)
      (case p6 => k_is)
      (case p7 => k_is)
      (case p8 => k_is)
      (case p9 => k_is)
      (case q1 => k_is)
      (case q2 => k_is)
      (case q3 => k_is)
      (case q4 => k_is)
      (case q5 => k_is)
      (case q6 => kernel_rfl)
      (case q7 => decide +kernel)
      (case q8 => refine Lk.all_in ?_; refine ⟨?_, ?_⟩; (· k_is); exact trivial)
      (case r1 => rfl)
      (case r2 => kernel_rfl)
    (case e_BadNode => refine Lk.exc_ef ?_ ?_ ?_ ?_ ?_ ?_ ?_ ?_ <;> k_is)
    (case s_BadNode_LinkError => k_is)
    (case s_BadNode_LogError => k_is)
    (case s_BadNode_BadOperation => k_is)
    (case s_BadNode_Illegal => k_is)
    (case s_BadNode_BadSize => k_is)
    (case s_BadNode_BadNode => k_is)
    (case s_BadNode_BadGap => k_is)
    (case s_BadNode_BadDump => k_is)
    (case s_BadNode_NotRepairable => k_is)
    (case s_BadNode_NotOnce => k_is)
    case x_BadGap =>
      refine' LkX.exc_mk (st := Lk.s_BadGap___init__) (qual := "BadGap.__init__") ?p1 ?p2 ?p3 ?p4 ?p5 ?p6 ?p7 ?p8 ?p9 ?q1 ?q2 ?q3 ?q4 ?q5 ?q6 ?q7 ?q8 ?r1 ?r2 ⟨_, _, _, _, _, _, _, _, _, rfl, rfl, (.cons .nil)⟩ rfl rfl rfl rfl rfl (by decide +kernel) (by decide +kernel) rfl rfl rfl (fun us hl => match us, hl with | [_, _], _ => rfl) (by decide +kernel) (by decide +kernel) (by decide)
      (case p1 => k_is)
      (case p2 => k_is)
      (case p3 => k_is)
      (case p4 => k_is)
      (case p5 => k_is)
      (case p6 => k_is)
      (case p7 => k_is)
      (case p8 => k_is)
      (case p9 => k_is)
      (case q1 => k_is)
      (case q2 => k_is)
      (case q3 => k_is)
      (case q4 => k_is)
      (case q5 => k_is)
      (case q6 => kernel_rfl)
      (case q7 => decide +kernel)
      (case q8 => refine Lk.all_in ?_; refine ⟨?_, ?_⟩; (· k_is); exact trivial)
      (case r1 => rfl)
      (case r2 => kernel_rfl)
    (case e_BadGap => refine Lk.exc_ef ?_ ?_ ?_ ?_ ?_ ?_ ?_ ?_ <;> k_is)
    (case s_BadGap_LinkError => k_is)
    (case s_BadGap_LogError => k_is)
    (case s_BadGap_BadOperation => k_is)
    (case s_BadGap_Illegal => k_is)
    (case s_BadGap_BadSize => k_is)
    (case s_BadGap_BadNode => k_is)
    (case s_BadGap_BadGap => k_is)
    (case s_BadGap_BadDump => k_is)
    (case s_BadGap_NotRepairable => k_is)
    (case s_BadGap_NotOnce => k_is)
    case x_BadDump =>
      refine' LkX.exc_mk (st := Lk.s_BadDump___init__) (qual := "BadDump.__init__") ?p1 ?p2 ?p3 ?p4 ?p5 ?p6 ?p7 ?p8 ?p9 ?q1 ?q2 ?q3 ?q4 ?q5 ?q6 ?q7 ?q8 ?r1 ?r2 ⟨_, _, _, _, _, _, _, _, _, rfl, rfl, (.cons .nil)⟩ rfl rfl rfl rfl rfl (by decide +kernel) (by decide +kernel) rfl rfl rfl (fun us hl => match us, hl with | [_, _], _ => rfl) (by decide +kernel) (by decide +kernel) (by decide)
      (case p1 => k_is)
      (case p2 => k_is)
      (case p3 => k_is)
      (case p4 => k_is)
      (case p5 => k_is)
      (case p6 => k_is)
      (case p7 => k_is)
      (case p8 => k_is)
      (case p9 => k_is)
      (case q1 => k_is)
      (case q2 => k_is)
      (case q3 => k_is)
      (case q4 => k_is)
      (case q5 => k_is)
      (case q6 => kernel_rfl)
      (case q7 => decide +kernel)
      (case q8 => refine Lk.all_in ?_; refine ⟨?_, ?_⟩; (· k_is); exact trivial)
      (case r1 => rfl)
      (case r2 => kernel_rfl)
    (case e_BadDump => refine Lk.exc_ef ?_ ?_ ?_ ?_ ?_ ?_ ?_ ?_ <;> k_is)
    (case s_BadDump_LinkError => k_is)
    (case s_BadDump_LogError => k_is)
    (case s_BadDump_BadOperation => k_is)
    (case s_BadDump_Illegal => k_is)
    (case s_BadDump_BadSize => k_is)
    (case s_BadDump_BadNode => k_is)
    (case s_BadDump_BadGap => k_is)
    (case s_BadDump_BadDump => k_is)
    (case s_BadDump_NotRepairable => k_is)
    (case s_BadDump_NotOnce => k_is)
    case x_NotRepairable =>
      refine' LkX.exc_mk (st := Lk.s_NotRepairable___init__) (qual := "NotRepairable.__init__") ?p1 ?p2 ?p3 ?p4 ?p5 ?p6 ?p7 ?p8 ?p9 ?q1 ?q2 ?q3 ?q4 ?q5 ?q6 ?q7 ?q8 ?r1 ?r2 ⟨_, _, _, _, _, _, _, _, _, rfl, rfl, (.cons .nil)⟩ rfl rfl rfl rfl rfl (by decide +kernel) (by decide +kernel) rfl rfl rfl (fun us hl => match us, hl with | [_, _], _ => rfl) (by decide +kernel) (by decide +kernel) (by decide)
      (case p1 => k_is)
      (case p2 => k_is)
      (case p3 => k_is)
      (case p4 => k_is)
      (case p5 => k_is)
      (case p6 => k_is)
      (case p7 => k_is)
      (case p8 => k_is)
      (case p9 => k_is)
      (case q1 => k_is)
      (case q2 => k_is)
      (case q3 => k_is)
      (case q4 => k_is)
      (case q5 => k_is)
      (case q6 => kernel_rfl)
      (case q7 => decide +kernel)
      (case q8 => refine Lk.all_in ?_; refine ⟨?_, ?_⟩; (· k_is); exact trivial)
      (case r1 => rfl)
      (case r2 => kernel_rfl)
    (case e_NotRepairable => refine Lk.exc_ef ?_ ?_ ?_ ?_ ?_ ?_ ?_ ?_ <;> k_is)
    (case s_NotRepairable_LinkError => k_is)
    (case s_NotRepairable_LogError => k_is)
    (case s_NotRepairable_BadOperation => k_is)
    (case s_NotRepairable_Illegal => k_is)
    (case s_NotRepairable_BadSize => k_is)
    (case s_NotRepairable_BadNode => k_is)
    (case s_NotRepairable_BadGap => k_is)
    (case s_NotRepairable_BadDump => k_is)
    (case s_NotRepairable_NotRepairable => k_is)
    (case s_NotRepairable_NotOnce => k_is)
    case x_NotOnce =>
      refine' LkX.exc_mk (st := Lk.s_NotOnce___init__) (qual := "NotOnce.__init__") ?p1 ?p2 ?p3 ?p4 ?p5 ?p6 ?p7 ?p8 ?p9 ?q1 ?q2 ?q3 ?q4 ?q5 ?q6 ?q7 ?q8 ?r1 ?r2 ⟨_, _, _, _, _, _, _, _, _, rfl, rfl, (.cons .nil)⟩ rfl rfl rfl rfl rfl (by decide +kernel) (by decide +kernel) rfl rfl rfl (fun us hl => match us, hl with | [_, _], _ => rfl) (by decide +kernel) (by decide +kernel) (by decide)
      (case p1 => k_is)
      (case p2 => k_is)
      (case p3 => k_is)
      (case p4 => k_is)
      (case p5 => k_is)
      (case p6 => k_is)
      (case p7 => k_is)
      (case p8 => k_is)
      (case p9 => k_is)
      (case q1 => k_is)
      (case q2 => k_is)
      (case q3 => k_is)
      (case q4 => k_is)
      (case q5 => k_is)
      (case q6 => kernel_rfl)
      (case q7 => decide +kernel)
      (case q8 => refine Lk.all_in ?_; refine ⟨?_, ?_⟩; (· k_is); exact trivial)
      (case r1 => rfl)
      (case r2 => kernel_rfl)
    (case e_NotOnce => refine Lk.exc_ef ?_ ?_ ?_ ?_ ?_ ?_ ?_ ?_ <;> k_is)
    (case s_NotOnce_LinkError => k_is)
    (case s_NotOnce_LogError => k_is)
    (case s_NotOnce_BadOperation => k_is)
    (case s_NotOnce_Illegal => k_is)
    (case s_NotOnce_BadSize => k_is)
    (case s_NotOnce_BadNode => k_is)
    (case s_NotOnce_BadGap => k_is)
    (case s_NotOnce_BadDump => k_is)
    (case s_NotOnce_NotRepairable => k_is)
    (case s_NotOnce_NotOnce => k_is)
    (case a_check_size => k_is)
    (case l_check_size => k_is)
    (case c_check_size => k_is)
    (case k_check_size => k_is)
    (case a_check_operation => k_is)
    (case l_check_operation => k_is)
    (case c_check_operation => k_is)
    (case k_check_operation => k_is)
    (case a_check_log => k_is)
    (case l_check_log => k_is)
    (case c_check_log => k_is)
    (case k_check_log => k_is)
    (case a__is_legal => k_is)
    (case l__is_legal => k_is)
    (case c__is_legal => k_is)
    (case k__is_legal => k_is)
    (case a_replay => k_is)
    (case l_replay => k_is)
    (case c_replay => k_is)
    (case k_replay => k_is)
    (case a_check_once => k_is)
    (case l_check_once => k_is)
    (case c_check_once => k_is)
    (case k_check_once => k_is)
    (case a_late_gaps => k_is)
    (case l_late_gaps => k_is)
    (case c_late_gaps => k_is)
    (case k_late_gaps => k_is)
    (case a_late_writes => k_is)
    (case l_late_writes => k_is)
    (case c_late_writes => k_is)
    (case k_late_writes => k_is)
    (case a_is_complete => k_is)
    (case l_is_complete => k_is)
    (case c_is_complete => k_is)
    (case k_is_complete => k_is)
    (case a_check_gap => k_is)
    (case l_check_gap => k_is)
    (case c_check_gap => k_is)
    (case k_check_gap => k_is)
    (case a_left_holds => k_is)
    (case l_left_holds => k_is)
    (case c_left_holds => k_is)
    (case k_left_holds => k_is)
    (case a_right_holds => k_is)
    (case l_right_holds => k_is)
    (case c_right_holds => k_is)
    (case k_right_holds => k_is)
    (case a_gap_state => k_is)
    (case l_gap_state => k_is)
    (case c_gap_state => k_is)
    (case k_gap_state => k_is)
    (case a_gap_states => k_is)
    (case l_gap_states => k_is)
    (case c_gap_states => k_is)
    (case k_gap_states => k_is)
    (case a_lost_gaps => k_is)
    (case l_lost_gaps => k_is)
    (case c_lost_gaps => k_is)
    (case k_lost_gaps => k_is)
    (case a_sole_holders => k_is)
    (case l_sole_holders => k_is)
    (case c_sole_holders => k_is)
    (case k_sole_holders => k_is)
    (case a_check_repairable => k_is)
    (case l_check_repairable => k_is)
    (case c_check_repairable => k_is)
    (case k_check_repairable => k_is)
    (case a_is_due => k_is)
    (case l_is_due => k_is)
    (case c_is_due => k_is)
    (case k_is_due => k_is)
    (case a__share => k_is)
    (case l__share => k_is)
    (case c__share => k_is)
    (case k__share => k_is)
    (case a_is_repairable => k_is)
    (case l_is_repairable => k_is)
    (case c_is_repairable => k_is)
    (case k_is_repairable => k_is)
    (case a_due_nodes => k_is)
    (case l_due_nodes => k_is)
    (case c_due_nodes => k_is)
    (case k_due_nodes => k_is)
    (case a_settled_debt => k_is)
    (case l_settled_debt => k_is)
    (case c_settled_debt => k_is)
    (case k_settled_debt => k_is)
    (case a_debt_of => k_is)
    (case l_debt_of => k_is)
    (case c_debt_of => k_is)
    (case k_debt_of => k_is)
    (case a__law_mixed => k_is)
    (case l__law_mixed => k_is)
    (case c__law_mixed => k_is)
    (case k__law_mixed => k_is)
    (case a__law_box => k_is)
    (case l__law_box => k_is)
    (case c__law_box => k_is)
    (case k__law_box => k_is)
    (case a__law_take => k_is)
    (case l__law_take => k_is)
    (case c__law_take => k_is)
    (case k__law_take => k_is)
    (case a__law_size => k_is)
    (case l__law_size => k_is)
    (case c__law_size => k_is)
    (case k__law_size => k_is)
    (case a__law_range => k_is)
    (case l__law_range => k_is)
    (case c__law_range => k_is)
    (case k__law_range => k_is)
    (case a__law_start => k_is)
    (case l__law_start => k_is)
    (case c__law_start => k_is)
    (case k__law_start => k_is)
    (case a__law_late => k_is)
    (case l__law_late => k_is)
    (case c__law_late => k_is)
    (case k__law_late => k_is)
    (case a__law_step => k_is)
    (case l__law_step => k_is)
    (case c__law_step => k_is)
    (case k__law_step => k_is)
    (case a__law_pattern => k_is)
    (case l__law_pattern => k_is)
    (case c__law_pattern => k_is)
    (case k__law_pattern => k_is)
    (case a__law_log => k_is)
    (case l__law_log => k_is)
    (case c__law_log => k_is)
    (case k__law_log => k_is)
    (case a__law_first_late => k_is)
    (case l__law_first_late => k_is)
    (case c__law_first_late => k_is)
    (case k__law_first_late => k_is)
    (case a__law_after => k_is)
    (case l__law_after => k_is)
    (case c__law_after => k_is)
    (case k__law_after => k_is)
    (case a__law_states => k_is)
    (case l__law_states => k_is)
    (case c__law_states => k_is)
    (case k__law_states => k_is)
    (case a__law_integer => k_is)
    (case l__law_integer => k_is)
    (case c__law_integer => k_is)
    (case k__law_integer => k_is)
    (case a__law_row => k_is)
    (case l__law_row => k_is)
    (case c__law_row => k_is)
    (case k__law_row => k_is)
    (case a__law_texts => k_is)
    (case l__law_texts => k_is)
    (case c__law_texts => k_is)
    (case k__law_texts => k_is)
    (case a__law_is_pair => k_is)
    (case l__law_is_pair => k_is)
    (case c__law_is_pair => k_is)
    (case k__law_is_pair => k_is)
    (case a__law_told_gaps => k_is)
    (case l__law_told_gaps => k_is)
    (case c__law_told_gaps => k_is)
    (case k__law_told_gaps => k_is)
    (case a__law_complete => k_is)
    (case l__law_complete => k_is)
    (case c__law_complete => k_is)
    (case k__law_complete => k_is)
    (case a__law_holders => k_is)
    (case l__law_holders => k_is)
    (case c__law_holders => k_is)
    (case k__law_holders => k_is)
    (case a__law_calm => k_is)
    (case l__law_calm => k_is)
    (case c__law_calm => k_is)
    (case k__law_calm => k_is)
    (case a_law => k_is)
    (case l_law => k_is)
    (case c_law => k_is)
    (case k_law => k_is)
    (case b_ValueError => k_is)
    (case b_enumerate => k_is)
    (case b_range => k_is)
    (case b_sum => k_is)
    (case b_abs => k_is)
    (case b_max => k_is)
    (case b_len => k_is)
    (case b_list => k_is)
    (case b_int => k_is)
    (case b_min => k_is)
    (case b_isinstance => k_is)
    (case b_str => k_is)
    (case b_bool => k_is)
    (case b_tuple => k_is)
    (case b_super => k_is)
    (case k_MOST_NODES => k_is)
    (case k_MOST_DIGITS => k_is)
    (case k_PARTS => k_is)
