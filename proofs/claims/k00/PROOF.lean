import PyProof.Rows.All
import Wide.All
import OpenK.AllK
import Wide.FinOn
import KE.KExcSuper
import HandS.ForMost
import HandS.Exc
import HandS.ExcInit
import HandS.ExcCtx
import HandS.HotCalls
import HandS.ExcInitHot
import HandS.ExcIs
import HandS.More
import HandS.IsInst
import HandS.ExcField
import HandS.CallSlots
import HandS.TryMany
import HandS.Text
import HandS.Zip
import KE.KExcIs
import HandS.ClsMeth
import HandS.StrMore
import HandS.Sort
import HandS.Conv
import HandS.Codes
import HandS.Comp
import HandS.TupLe
import HandS.Dict
import PyProof.TupleIter
import HandS.FStr
import HandS.Walk
import HandS.Steps
import HandS.Iter
import PyProof.FString3
import PyProof.Rows.StrIntSpec
import PySem.Challenge.RW_latelink_k00_log_texts
set_option Elab.async false
set_option linter.all false
set_option maxRecDepth 100000
set_option maxHeartbeats 4000000
/-! own exceptions whose __init__ is: super().__init__('text'); self.f = f, .. -/
namespace LkX
open PySem PySem.W PySem.Calls PyProof.Rows PySem.HandSPX

/-- the stores: self.f = f, for the names in turn -/
inductive Stores : List Str → List Stmt → Prop
  | nil : Stores [] []
  | cons {f : Str} {fs : List Str} {ss : List Stmt} {q1 q2 q3 q4 : Pos} : Stores fs ss → Stores (f :: fs) (.Assign [.Attribute (.Name "self" q1) f q2] (.Name f q3) q4 :: ss)
/-- the whole body -/
def InitBody (fs : List Str) (body : List Stmt) : Prop := ∃ (m : Str) (j : Nat) (p0 p1 p2 p3 p4 p5 : Pos) (ss : List Stmt),
  body = .Expr (.Call (.Attribute (.Call (.Name "super" p0) [] [] p1) "__init__" p2) [.Constant (.str m) j p3] [] p4) p5 :: ss ∧ (p2.endLine == p4.line) = true ∧ Stores fs ss

/-- what the written part says of the class x at C, its __init__ at fI, its fields' names fs -/
structure ExcTxt (prog : Program) (K : Frag) (C fI : Addr) (fs : List Str) : Prop where
  cls : ∃ nm q N bs bm sn sub ab col dd k0 k1 k2 k3 k5, K.lookup C = some (excClassObj nm q C N bs bm true sn sub ab col dd k0 k1 k2 k3 k5 "ValueError.__new__") ∧ refsVE bm = true
  sa : findIn K (.ref C) "__setattr__" = some (some (.builtin "object.__setattr__"))
  noN : ∀ f ∈ fs, findIn K (.ref C) f = some none
  iC : findIn K (.ref C) "__init__" = some (some (.ref fI))
  tI : typeIn K (.ref fI) = some (.type "function")
  kC : keepIn K (.ref C) = true
  exC : subIn K (.ref C) (.type "BaseException") = some true
  tyC : typeIn K (.ref C) = some (.type "type")
  vE : subIn K (.ref C) (.type "ValueError") = some true
  su : ks_superIn K C C "__init__" = some (some (.builtin "ValueError.__init__"))
  op : nsIn K cStatics "thirdparty.any" = some none
  gs : nsIn K mainGlobals "super" = some none
  fn : ∃ (qual : Str) (params : Arguments) (body : List Stmt) (scope : Scope) (oc : Value) (od : Option Addr) (doc pm : Value) (an : Option Addr) (cda : Addr) (ct : Value) (cc : Addr) (osl : Array (Option Value)) (ccl : Value) (cdd : Option Addr) (cvs : Array Value) (ccs : Array (Option Value)) (file : Str) (tf : Tok) (cl : Value) (cld : Option Addr) (csl : Array (Option Value)) (ar : Arg),
    K.lookup fI = some ⟨oc, od, .func (ksFn "__init__" qual params body scope .none .none doc pm an (.ref cda) ct cc), osl⟩ ∧ codeIn K (.ref cda) qual = true ∧
    K.lookup cda = some ⟨ccl, cdd, .fields cvs, ccs⟩ ∧ cvs[2]? = some (.str file tf) ∧ ((prog.main.file : Str) == file) = true ∧
    K.lookup cc = some ⟨cl, cld, .cell (some (.ref C)), csl⟩ ∧ InitBody fs body ∧ (params.posonlyargs ++ params.args).head? = some ar ∧ ar.arg = "self" ∧
    (prog.main.scope.names.lookup ("super" : Str)).isSome = false ∧
    scope.names.lookup ("super" : Str) = some .globalImplicit ∧ scope.names.lookup ("__class__" : Str) = some .free ∧ (∀ x ∈ scope.names, x.2 ≠ .cell) ∧
    (∀ f ∈ ("self" : Str) :: fs, scope.names.lookup f = some .local) ∧ scope.isCoroutine = false ∧ scope.isGenerator = false ∧ scope.kind = .function ∧
    (∀ us : List Value, us.length = (("self" : Str) :: fs).length → bindArgs (ksFn "__init__" qual params body scope .none .none doc pm an (.ref cda) ct cc) ⟨us, []⟩ = pure ((("self" : Str) :: fs).zip us))
  nd : (("self" : Str) :: fs).Nodup
  nb : ∀ f ∈ ("self" : Str) :: fs, (f == ("__debug__" : Str)) = false
  few : fs.length ≤ 100

theorem lookup_zip : ∀ {ns : List Str} {vs : List Value} {i : Nat} {f : Str} {v : Value}, ns.Nodup → ns[i]? = some f → vs[i]? = some v → (ns.zip vs).reverse.lookup f = some v := by
  intro ns
  induction ns with
  | nil => intro vs i f v _ h; simp at h
  | cons n ns ih =>
    intro vs i f v hd hf hv
    cases vs with
    | nil => simp at hv
    | cons u vs =>
      have hd' := List.nodup_cons.mp hd
      rw [List.zip_cons_cons, List.reverse_cons, List.lookup_append]
      cases i with
      | zero =>
        simp at hf hv
        subst hf; subst hv
        have hno : (ns.zip vs).reverse.lookup n = none := by
          cases hq : (ns.zip vs).reverse.lookup n with
          | none => rfl
          | some w =>
            have := PySem.mem_of_lookup hq
            rw [List.mem_reverse] at this
            exact absurd (List.of_mem_zip this).1 hd'.1
        rw [hno]
        simp [List.lookup]
      | succ i =>
        simp at hf hv
        rw [ih hd'.2 hf hv]
        rfl

theorem mcall_plain {o e : Expr} {name : Str} {apos pos : Pos} {env : Env} (h : (apos.endLine == pos.line) = true) (he : starEach [e] env = [(false, eval e env)] := by rfl) :
    eval (.Call (.Attribute o name apos) [e] [] pos) env = (do
      let ov ← attributeBase o name env (eval o env)
      standAt apos.atName
      let (f, first) ← holding [ov] (getMethod ov name (do return (← importBound o env).getD true))
      callWith pos f first (backTo pos (starEach [e] env)) []) := by
  rw [arm_eval_Call, he]
  unfold methodCall methodCallPos calleeOf
  rw [h]
  rfl
theorem quiet_of {env : Env} (h : env.scope.kind = .function) : interactive env = false := by simp [interactive, h]
theorem callWith1 {M : Model} {A : Around} {E : Value → Shared → Prop} {s : Shared} {i : String} {x u : Addr} {pos : Pos} {env : Env} {e : Expr} {rest : List Expr} {Q : Value → Shared → Prop}
    (h : wpAny M A (spliced (backTo pos (starEach (e :: rest) env))) (fun vs s₁ => KxsAt i u x s₁.heap ∧ wpAny M A (call (.ref u) vs) Q E s₁) E s)
    (he : starEach (e :: rest) env = (false, eval e env) :: starEach rest env := by rfl) (hplain : (backTo pos (starEach rest env)).any (·.1) = false := by rfl) :
    wpAny M A (callWith pos (.ref u) [] (backTo pos (starEach (e :: rest) env)) []) Q E s := by
  rw [he] at h ⊢
  refine kxs_callWith (i := i) (x := x) (by show (false || (backTo pos (starEach rest env)).any (·.1)) = false; rw [hplain]; rfl) ?_
  exact evalArgs_plain h
theorem spl1 {M : Model} {A : Around} {E : Value → Shared → Prop} {s : Shared} {pos : Pos} {env : Env} {e : Expr} {Q : List Value → Shared → Prop} (h : wpAny M A (eval e env) (fun v s₁ => Q [v] s₁) E s) (he : starEach [e] env = [(false, eval e env)] := by rfl) :
    wpAny M A (spliced (backTo pos (starEach [e] env))) Q E s := by
  rw [he]
  show wpAny _ _ (spliced ((false, eval e env) :: [])) _ _ s
  exact Calls.spliced_cons (wpAny_mono h (fun v s1 q => Calls.spliced_nil q) fun _ _ z => z)
/-- what __init__ leaves of the exception at x: its dict at dx holds m -/
structure InitEnd (h h' : Heap) (x C : Addr) (fs : List Str) (vs : List Value) : Prop where
  keep : ∀ b o, b ≠ x → h.get? b = some o → h'.get? b = some o
  fin : ∃ (t1 dx : Addr), h'.get? x = some ({ cls := .ref C, dict := some dx, data := .fields #[.ref t1, .none, .none, .none, .bool false, .none] } : Obj) ∧ h.objs.size ≤ dx ∧ dx ≠ x ∧
    ∃ mA, h'.Ns1 dx mA ∧ (∀ (i : Nat) (f : Str) (v : Value), fs[i]? = some f → vs[i]? = some v → mA f = some v) ∧ ∀ f, f ∉ fs → mA f = none

section
variable {prog : Program} {w : World} {A : Around} {E : Value → Shared → Prop} {R : Result → Shared → Prop} {K : Frag} {C fI : Addr} {fs : List Str}

theorem ldE {M : Model} {s : Shared} {env : Env} {m : Str → Option Value} {x : Str} {pos : Pos} {v : Value} {Q : Value → Shared → Prop} (hn : s.heap.Ns env.locals m) (hv : m x = some v) (h : Q v s)
    (hk : env.scope.kind = .function) (hl : env.kindOf x = some .local) (hd : (x == ("__debug__" : Str)) = false) : wpAny M A (eval (.Name x pos) env) Q E s := wpAny_Name (wpAny_loadName_local hk hl hn hv h) hd

/-- further stores: the dict is there -/
theorem stores_old (T : ExcTxt prog K C fI fs) {env : Env} {x t1 dx : Addr} (hk : env.scope.kind = .function) {N : Str → Option Value} (hself : N "self" = some (.ref x)) (hls : env.kindOf "self" = some .local) :
    ∀ (gs : List Str) (ss : List Stmt) (s : Shared) (mA : Str → Option Value) (nl : List Str) {Q : Flow → Shared → Prop}, Stores gs ss → (∀ f ∈ gs, f ∈ fs ∧ env.kindOf f = some .local ∧ ∃ v, N f = some v) → K.In s.heap → s.heap.Ns env.locals N → env.locals ≠ x → env.locals ≠ dx →
    s.heap.get? x = some ({ cls := .ref C, dict := some dx, data := .fields #[.ref t1, .none, .none, .none, .bool false, .none] } : Obj) → s.heap.Ns1 dx mA → Within mA nl → nl.length + gs.length ≤ 1000 → K.lookup dx = none → dx ≠ x → gs.Nodup →
    (∀ h' tk mB, (∀ b o, b ≠ dx → s.heap.get? b = some o → h'.get? b = some o) → h'.Ns1 dx mB → (∀ f ∈ gs, mB f = N f) → (∀ f, f ∉ gs → mB f = mA f) → Q .next { s with heap := h', toks := tk }) →
    wpAny (model prog w) A (execs ss env) Q E s := by
  obtain ⟨nm, q, N0, bs, bm, sn, sub, ab, col, dd, k0, k1, k2, k3, k5, hC, hbm⟩ := T.cls
  have hcl : clsIn K C = some { name := nm, bases := bs, mro := .ref C :: bm, ns := N0, qualname := q, hasDict := true, slotNames := sn, subclasses := sub, abstract := ab, collection := col, hasDel := false } := by unfold clsIn; rw [hC] <;> rfl
  intro gs
  induction gs with
  | nil =>
    intro ss s mA nl Q hS _ _ _ _ _ _ hn _ _ _ _ _ hq
    cases hS
    obtain ⟨hp, g, d, t, os⟩ := s
    exact wpAny_execs_nil (hq hp t mA (fun _ _ _ e => e) hn (fun _ h => absurd h List.not_mem_nil) fun _ _ => rfl)
  | cons f gs ih =>
    intro ss s mA nl Q hS hf hKI hns hLx hLd hx hn hw hz hKd hdx hnd hq
    cases hS with
    | cons hS' =>
      obtain ⟨hfm, hfl, v, hv⟩ := hf f List.mem_cons_self
      obtain ⟨oD, _, _, hoD, _, _⟩ := hn.count hw
      refine wpAny_execs_cons (plainObj_wpAny_Assign_Attribute ?_)
      refine ldE hns hv (ldE hns hself ?_ hk hls (T.nb _ List.mem_cons_self)) hk hfl (T.nb _ (List.mem_cons_of_mem _ hfm))
      obtain ⟨hp, g, d, t, os⟩ := s
      refine set_plain hKI (ox := { cls := .ref C, dict := some dx, data := .fields #[.ref t1, .none, .none, .none, .bool false, .none] }) (od := some oD) ⟨hx, rfl, rfl, hoD⟩ T.sa ?_
      refine PySem.OEX.osa_old hKI hx hn hw (by simp at hz; omega) hcl (show refsVE (.ref C :: bm) = true from hbm) rfl (T.noN f hfm) (fun h' tk' k hn' => ?_)
      have kK : K.In h' := fun a o e => k a o (fun z => by rw [z, hKd] at e; cases e) (hKI a o e)
      have hns' : h'.Ns env.locals N := by
        obtain ⟨o, es, ep, ho, hr⟩ := hns
        exact ⟨o, es, ep, k _ _ hLd ho, hr⟩
      refine ih _ ⟨h', g, d, tk', os⟩ (fun y => if y = f then some v else mA y) (f :: nl) hS' (fun f' hf' => hf f' (List.mem_cons_of_mem _ hf')) kK hns' hLx hLd (k _ _ hdx.symm hx) hn' (Within.cons f v hw) (by simp at hz ⊢; omega) hKd hdx (List.nodup_cons.mp hnd).2 ?_
      intro h2 tk2 mB k2 hnB hB hB'
      refine hq h2 tk2 mB (fun b o hb e => k2 b o hb (k b o hb e)) hnB (fun f' hf' => ?_) fun f' hf' => ?_
      · rcases List.mem_cons.mp hf' with e | hf'
        · subst e
          rw [hB' _ (List.nodup_cons.mp hnd).1, if_pos rfl, hv]
        · exact hB f' hf'
      · rw [hB' f' (fun z => hf' (List.mem_cons_of_mem _ z)), if_neg (fun z => hf' (by rw [z]; exact List.mem_cons_self))]

/-- super().__init__('m') called: the built-in's part -/
theorem call_init {u x t0 : Addr} {rest : List Value} {s : Shared} {Q : Value → Shared → Prop} (T : ExcTxt prog K C fI fs) (X : K.In s.heap) (hu : s.heap.get? u = some (kxs_mw "ValueError.__init__" x)) (hx : s.heap.get? x = some (excO C t0)) (hz : rest.length ≤ sizeLine)
    (hq : ∀ h' t1, (∀ b o, b ≠ x → s.heap.get? b = some o → h'.get? b = some o) → h'.get? x = some (excO C t1) → Q .none { s with heap := h' }) : wpAny (model prog w) A (call (.ref u) rest) Q E s := by
  obtain ⟨nm, q, N0, bs, bm, sn, sub, ab, col, dd, k0, k1, k2, k3, k5, hC, hbm⟩ := T.cls
  obtain ⟨hh, g, d, tk, os⟩ := s
  refine wpAny_call (codeAny_of_tree ?_)
  show wpAny _ A.in1 (callAny (.ref u) ⟨rest, []⟩) _ _ _
  simp only [callAny]
  refine wpAny_bind (wpAny_load hu ?_)
  simp only [kxs_mw, show (Value.type "method-wrapper" == Value.type "method" || Value.type "method-wrapper" == Value.type "builtin_function_or_method" || Value.type "method-wrapper" == Value.type "method-wrapper") = true by decide, if_true]
  refine KFB.if_so (by decide) ?_
  refine wpAny_bind (check_bound_init F.excBase_ValueError.toExcCallFacts (X _ _ hC) hx rfl ?_)
  refine wpAny_bind (wpAny_pure (wpAny_pure ?_))
  refine ⟨plainId_quiet F.excBase_ValueError.init.plain _, codeAny_builtin F.excBase_ValueError.initEntry ?_⟩
  exact exc_init_tree (cls := .ref C) (t0 := t0) (dv := none) (c2 := .none) (c3 := .none) (b4 := .bool false) hx hz fun h' k e' _ => hq h' _ k e'

theorem exc_init (T : ExcTxt prog K C fI fs) {x t0 : Addr} {vs : List Value} {s : Shared} {mg mb : Str → Option Value} (hfs : fs ≠ []) (hlen : vs.length = fs.length) (X : K.In s.heap) (hlim : s.heap.NoLimit) (hg : s.heap.Ns mainGlobals mg) (hb : s.heap.Ns builtinsNs mb) (hbs : mb "super" = some (.type "super")) (hx : s.heap.get? x = some (excO C t0)) (hnx : K.lookup x = none) (hroom : A.depth < recursionLimit)
    (hq : ∀ h' tk, InitEnd s.heap h' x C fs vs → R (.ok (.ret .none)) { s with heap := h', toks := tk }) :
    codeAny (model prog w) A (.call (.ref fI) ⟨.ref x :: vs, []⟩) R s := by
  obtain ⟨qual, params, body, scope, oc, od, doc, pm, an, cda, ct, cc, osl, ccl, cdd, cvs, ccs, file, tf, cl, cld, csl, ar, ho, hcd, hcda, hc2, hfile, hcell, ⟨m, j, p0, p1, p2, p3, p4, p5, ss, rfl, hpl, hS⟩, har, hself, htop, hsu, hcls, hnc, hloc, hco, hgen, hk, hbind⟩ := T.fn
  obtain ⟨nm, q, N0, bs, bm, sn, sub, ab, col, dd, k0, k1, k2, k3, k5, hC, hbm⟩ := T.cls
  have hcl : clsIn K C = some { name := nm, bases := bs, mro := .ref C :: bm, ns := N0, qualname := q, hasDict := true, slotNames := sn, subclasses := sub, abstract := ab, collection := col, hasDel := false } := by unfold clsIn; rw [hC] <;> rfl
  refine ks_codeAny_call_defAt (binds := (("self" : Str) :: fs).zip (.ref x :: vs)) hroom (X _ _ ho) rfl hlim (codeRec_of X hcd) rfl (BindsTo.of_eq (hbind _ (by simp [hlen]))) hnc (fun y hy => hloc _ (List.of_mem_zip (show (y.1, y.2) ∈ _ from hy)).1) (fun h₀ hns hk₀ => ?_) hco hgen hk
  have X0 : K.In h₀ := X.keeps hk₀
  have nself : (((("self" : Str) :: fs).zip (Value.ref x :: vs)).reverse).lookup ("self" : Str) = some (Value.ref x) := lookup_zip (i := 0) T.nd rfl rfl
  have nfld : ∀ (i : Nat) (f : Str) (v : Value), fs[i]? = some f → vs[i]? = some v → (((("self" : Str) :: fs).zip (Value.ref x :: vs)).reverse).lookup f = some v := fun i f v h1 h2 => lookup_zip (i := i + 1) T.nd (by simpa using h1) (by simpa using h2)
  have hx0 := hk₀ _ _ hx
  have hLs : s.heap.objs.size ≠ x := Nat.ne_of_gt (Heap.lt_size hx)
  have xC : x ≠ C := fun z => by rw [z] at hnx; rw [hC] at hnx; cases hnx
  -- super().__init__('m')
  refine ks_wpAt_execs_cons (ks_wpAt_Expr_any (ks_wpAt_MethodCall ?_ (mcall_plain hpl)) (quiet_of hk) rfl)
  refine ks_wpAt_super_base (env := callEnv (ksFn "__init__" qual params _ scope .none .none doc pm an (.ref cda) ct cc) s.heap.objs.size fI) hsu hcls (by decide) rfl (X0 _ _ ho) rfl har rfl (X0 _ _ hcda) rfl hc2 hfile htop ?_
  refine ks_loadName_global hk hsu (loadGlobal_builtin (env := callEnv (ksFn "__init__" qual params _ scope .none .none doc pm an (.ref cda) ct cc) s.heap.objs.size fI) (hg.keeps hk₀) (mg_none_of X hg T.gs) (hb.keeps hk₀) hbs ⟨rfl, ?_⟩)
  refine wpAny_loadName_free hk hcls rfl ⟨_, X0 _ _ hcell, rfl⟩ ?_
  refine wpAny_loadName_local hk (by rw [hself]; exact hloc _ List.mem_cons_self) hns (by rw [hself]; exact nself) ?_
  refine ks_wpAny_isType_cls (X0 _ _ hC) rfl ⟨rfl, ?_⟩
  refine ks_wpAny_call_super (X0 _ _ hC) rfl hx0 rfl (fun c e => by cases e) (looks_mroIn X0 (show mroIn K C (.ref C) = some true from ?_)) (fun h1 e1 k1' => ?_)
  · unfold mroIn
    rw [hcl, Option.bind_some]
    simp
  have X1 : K.In h1 := X0.keeps k1'
  have hx1 := k1' _ _ hx0
  unfold ks_superIn at *
  have hsu' := T.su
  unfold ks_superIn at hsu'
  rw [hcl] at hsu'
  have hI : Looks (model prog w) h1 (isInstance (.ref x) (.type "ValueError")) true := fun A Q E s' k q => wpAny_bind (wpAny_typeOf_ref (k _ _ hx1) (looks_subIn X1 T.vE A Q E s' k q))
  refine kxs_getMethod kxs_ValueError e1 (looks_opaque X1 T.op) (l₀ := .ref C :: bm) (fun A Q E s k q => wpAny_bind ((looks_clsIn X1 hcl) A _ E s k (wpAny_pure q))) rfl X1 hsu' hI xC (by decide) ?_
  have hu : (h1.push (kxs_mw "ValueError.__init__" x)).get? h1.objs.size = some (kxs_mw "ValueError.__init__" x) := Heap.get?_push_at rfl rfl
  have k2' : ∀ b o, h1.get? b = some o → (h1.push (kxs_mw "ValueError.__init__" x)).get? b = some o := fun b o e => Heap.get?_push_of_some _ e
  refine callWith1 (i := "ValueError.__init__") (x := x) ?_
  refine spl1 (Calls.Constant_str ⟨hu, ?_⟩)
  refine call_init T (X1.keeps k2') hu (k2' _ _ hx1) (by rw [sizeLine_eq]; simp) fun h2 t1 k3' hx2 => ?_
  have KX2 : K.In h2 := fun a o e => k3' a o (fun z => by rw [z, hnx] at e; cases e) (k2' _ _ (X1 a o e))
  refine wpAt_of_wpAny ?_
  -- the stores
  cases hS with
  | nil => exact absurd rfl hfs
  | @cons f gs ss' q1 q2 q3 q4 hS' =>
    have hLn : ∀ {b o}, s.heap.get? b = some o → b ≠ x → h2.get? b = some o := fun {b o} e hb => k3' b o hb (k2' _ _ (k1' _ _ (hk₀ _ _ e)))
    have hns2 : h2.Ns s.heap.objs.size (fun y => ((("self" : Str) :: (f :: gs)).zip (.ref x :: vs)).reverse.lookup y) := by
      obtain ⟨o, es, ep, hoo, hr⟩ := hns
      exact ⟨o, es, ep, k3' _ _ hLs (k2' _ _ (k1' _ _ hoo)), hr⟩
    obtain ⟨v, vs', rfl⟩ : ∃ v vs', vs = v :: vs' := by
      cases vs with
      | nil => simp at hlen
      | cons v vs' => exact ⟨v, vs', rfl⟩
    refine wpAny_execs_cons (plainObj_wpAny_Assign_Attribute ?_)
    refine ldE (env := callEnv (ksFn "__init__" qual params _ scope .none .none doc pm an (.ref cda) ct cc) s.heap.objs.size fI) hns2 (nfld 0 f v rfl rfl) (ldE (env := callEnv (ksFn "__init__" qual params _ scope .none .none doc pm an (.ref cda) ct cc) s.heap.objs.size fI) hns2 nself ?_ hk (hloc _ List.mem_cons_self) (T.nb _ List.mem_cons_self)) hk (hloc _ (by simp)) (T.nb _ (by simp))
    refine set_plain KX2 (ox := excO C t1) (od := none) ⟨hx2, rfl, rfl, trivial⟩ T.sa ?_
    refine exc_osa KX2 hx2 hcl (show refsVE (.ref C :: bm) = true from hbm) rfl (T.noN f (by simp)) (fun h3 tk3 dx k4' dn dne hx3 hn3 => ?_)
    have sz : ∀ {b o}, h2.get? b = some o → b ≠ dx := fun {b o} e => Nat.ne_of_lt (Nat.lt_of_lt_of_le (Heap.lt_size e) dn)
    have hKd : K.lookup dx = none := by
      cases e : K.lookup dx with
      | none => rfl
      | some o => exact absurd rfl (sz (KX2 _ _ e))
    have KX3 : K.In h3 := fun a o e => k4' a o (fun z => by rw [z, hnx] at e; cases e) (KX2 a o e)
    have hL2 : ∃ o, h2.get? s.heap.objs.size = some o := by
      obtain ⟨o, es, ep, hoo, hr⟩ := hns2
      exact ⟨o, hoo⟩
    obtain ⟨oL, hoL⟩ := hL2
    have hns3 : h3.Ns s.heap.objs.size (fun y => ((("self" : Str) :: (f :: gs)).zip (.ref x :: (v :: vs'))).reverse.lookup y) := by
      obtain ⟨o, es, ep, hoo, hr⟩ := hns2
      exact ⟨o, es, ep, k4' _ _ hLs hoo, hr⟩
    have nd2 := (List.nodup_cons.mp (List.nodup_cons.mp T.nd).2)
    refine stores_old T (env := callEnv (ksFn "__init__" qual params _ scope .none .none doc pm an (.ref cda) ct cc) s.heap.objs.size fI) hk nself (hloc _ List.mem_cons_self) gs ss' _ _ [f] hS' (fun f' hf' => ⟨List.mem_cons_of_mem _ hf', hloc _ (by simp [hf']), ?_⟩) KX3 hns3 hLs (sz hoL) hx3 hn3 (fun y hy => ?_) ?_ hKd dne nd2.2 ?_
    · obtain ⟨i, hi⟩ := List.getElem?_of_mem hf'
      have hi2 : i < vs'.length := by
        have := (List.getElem?_eq_some_iff.mp hi).1
        simp at hlen
        omega
      exact ⟨vs'[i], nfld (i + 1) f' _ (by simpa using hi) (by simp [hi2])⟩
    · by_cases hyf : y = f
      · simp [hyf]
      · simp [hyf] at hy
    · have := T.few
      simp at this ⊢
      omega
    · intro h4 tk4 mB k5' hnB hB hB'
      refine hq h4 tk4 ⟨fun b o hb e => k5' b o (fun z => ?_) (k4' b o hb (hLn e hb)), t1, dx, k5' _ _ dne.symm hx3, ?_, dne, mB, hnB, fun i f' u h1 h2' => ?_, fun f' hf' => ?_⟩
      · exact sz (hLn e hb) z
      · have l1 : s.heap.objs.size < h2.objs.size := Heap.lt_size hoL
        exact Nat.le_of_lt (Nat.lt_of_lt_of_le l1 dn)
      · cases i with
        | zero =>
          simp at h1 h2'
          subst h1; subst h2'
          rw [hB' _ nd2.1, if_pos rfl]
        | succ i =>
          have hm : f' ∈ gs := List.mem_of_getElem? (by simpa using h1)
          rw [hB f' hm]
          exact nfld (i + 1) f' u h1 h2'
      · rw [hB' f' (fun z => hf' (List.mem_cons_of_mem _ z)), if_neg (fun z => hf' (by rw [z]; exact List.mem_cons_self))]
/-- a made exception -/
structure OwnMade (h h' : Heap) (e C d : Addr) (fs : List Str) (vs : List Value) : Prop where
  keep : ∀ b o, h.get? b = some o → h'.get? b = some o
  new : h.objs.size ≤ e
  obj : ∃ t1 : Addr, h'.get? e = some ({ cls := .ref C, dict := some d, data := .fields #[.ref t1, .none, .none, .none, .bool false, .none] } : Obj)
  dbig : h.objs.size ≤ d
  dne : d ≠ e
  ns : ∃ mA, h'.Ns1 d mA ∧ (∀ (i : Nat) (f : Str) (v : Value), fs[i]? = some f → vs[i]? = some v → mA f = some v) ∧ ∀ f, f ∉ fs → mA f = none
theorem exc_made (T : ExcTxt prog K C fI fs) {vs : List Value} {s : Shared} {mg mb : Str → Option Value} (hfs : fs ≠ []) (hlen : vs.length = fs.length) (X : K.In s.heap) (hlim : s.heap.NoLimit) (hg : s.heap.Ns mainGlobals mg) (hb : s.heap.Ns builtinsNs mb) (hbs : mb "super" = some (.type "super")) (hroom : A.depth + 1 < recursionLimit)
    (hq : ∀ h' tk e d, OwnMade s.heap h' e C d fs vs → R (.ok (.ret (.ref e))) { s with heap := h', toks := tk }) :
    codeAny (model prog w) A (.call (.ref C) ⟨vs, []⟩) R s := by
  obtain ⟨nm, q, N, bs, bm, sn, sub, ab, col, dd, k0, k1, k2, k3, k5, hC, hbm⟩ := T.cls
  obtain ⟨hp, g, dr, tk, os⟩ := s
  have k : ∀ b o, hp.get? b = some o → ((hp.push (kdv_tup vs)).push (excO C hp.objs.size)).get? b = some o := fun b o e => Heap.get?_push_of_some _ (Heap.get?_push_of_some _ e)
  have hget : ((hp.push (kdv_tup vs)).push (excO C hp.objs.size)).get? (hp.objs.size + 1) = some (excO C hp.objs.size) := by heap_get
  have hnx : K.lookup (hp.objs.size + 1) = none := by
    cases e : K.lookup (hp.objs.size + 1) with
    | none => rfl
    | some o =>
      have z : hp.get? (hp.objs.size + 1) = some o := X _ _ e
      exact absurd (Nat.lt_of_succ_lt (Heap.lt_size z)) (Nat.lt_irrefl _)
  have hsz : vs.length ≤ sizeLine := by
    have := T.few
    rw [hlen, sizeLine_eq]
    omega
  refine call_own F.excBase_ValueError (fun X => refsVE_contains X bm hbm) (X _ _ hC) (looks_findIn X T.iC) (fun self => bind_fn X self T.tI) hsz ?_
  refine exc_init (s := ⟨(hp.push (kdv_tup vs)).push (excO C hp.objs.size), g, dr, tk, os⟩) T hfs hlen (X.keeps k) (hlim.keeps k) (hg.keeps k) (hb.keeps k) hbs hget hnx ?_ fun h' tk' IE => ?_
  · show A.depth + 1 < recursionLimit
    exact hroom
  · obtain ⟨k', t1, dx, hx, dn, dne, mA, hn, hv⟩ := IE
    have old : ∀ b o, hp.get? b = some o → h'.get? b = some o := fun b o e => k' b o (Nat.ne_of_lt (Nat.lt_succ_of_lt (Heap.lt_size e))) (k b o e)
    have z : hp.objs.size + 1 + 1 ≤ dx := by
      first
        | (simpa only [Heap.size_push] using dn)
        | exact dn
        | (have q := dn; rw [Heap.size_push, Heap.size_push] at q; exact q)
    exact ⟨rfl, hq h' tk' (hp.objs.size + 1) dx ⟨old, Nat.le_succ _, ⟨t1, hx⟩, Nat.le_trans (Nat.le_trans (Nat.le_succ _) (Nat.le_succ _)) z, dne, mA, hn, hv⟩⟩
end
end LkX

namespace Lk
open PySem PySem.Spec PyProof.Rows L2
abbrev St := L2.St

/-! ### raise C(e, ..) -/
/-- C(e, ..): the new exception's own dict at d -/
def tMkX (C : Addr) (fs : List Str) (ta : TA) : St → Hp → XK → Prop := fun σ H Q => ta σ H fun vs H1 => vs.length = fs.length ∧ ∀ d, H1 d = none → Q (.ref C) (some d) (upd H1 d (.xd (fs.zip vs)))
theorem zip_rel : ∀ {fs : List Str} {vs : List V} {us : List Value} {mA : Str → Option Value}, Vals vs us → vs.length = fs.length → (∀ (i : Nat) (f : Str) (v : Value), fs[i]? = some f → us[i]? = some v → mA f = some v) → (∀ f, f ∉ fs → mA f = none) → fs.Nodup → ∀ f, RelO ((fs.zip vs).lookup f) (mA f) := by
  intro fs
  induction fs with
  | nil =>
    intro vs us mA r hl h hn hd f
    rw [hn f List.not_mem_nil]
    exact True.intro
  | cons g fs ih =>
    intro vs us mA r hl h hn hd f
    cases r with
    | nil => simp at hl
    | @cons x u vs us rx rr =>
      rw [List.zip_cons_cons, lookup_put]
      by_cases hfg : f = g
      · rw [if_pos hfg, hfg, h 0 g u rfl rfl]
        exact rx
      · rw [if_neg hfg]
        have q := ih (mA := fun y => if y = g then none else mA y) rr (by simpa using hl) (fun i f' v' h1 h2 => by
            rw [if_neg (fun z => (List.nodup_cons.mp hd).1 (by rw [← z]; exact List.mem_of_getElem? h1))]
            exact h (i + 1) f' v' (by simpa using h1) (by simpa using h2)) (fun f' hf' => by
            by_cases z : f' = g
            · rw [if_pos z]
            · rw [if_neg z]
              exact hn f' (fun y => by rcases List.mem_cons.mp y with y | y; exact z y; exact hf' y)) (List.nodup_cons.mp hd).2 f
        rw [if_neg hfg] at q
        exact q
section
variable {X : Cx} {C fI : Addr} {fs : List Str} {e : Expr} {es : List Expr} {ta : TA} {x : Str} {p pos : Pos} {k : Nat}
theorem made_at {pins : List (Addr × Obj)} {σ : St} {H1 : Hp} {s1 : Shared} {us : List Value} {vs : List V} {Q : XK} {A : Around} {E : Value → Shared → Prop} (T : LkX.ExcTxt X.prog X.K C fI fs) (I1 : Inv X pins σ H1 s1) (r1 : Vals vs us) (hlen : vs.length = fs.length) (hfs : fs ≠ []) (hroom : A.depth + 1 < recursionLimit)
    (q : ∀ d, H1 d = none → Q (.ref C) (some d) (upd H1 d (.xd (fs.zip vs)))) : wpAny (model X.prog X.w) A (call (.ref C) us) (L2N.MkP X pins σ Q) E s1 := by
  obtain ⟨mb, hb1, hb2⟩ := I1.mod.blt
  have hul : us.length = fs.length := by rw [← r1.length]; exact hlen
  refine wpAny_call (LkX.exc_made T hfs hul I1.kIn I1.nolimit (I1.mod.glob.keeps I1.bk) (hb1.keeps I1.bk) ((hb2 "super" (by decide)).trans (by decide +kernel)) hroom fun h' tk' e d M => ?_)
  obtain ⟨hp, g, dr, tk, os⟩ := s1
  show L2N.MkP X pins σ Q (.ref e) ⟨h', g, dr, tk', os⟩
  obtain ⟨t1, hoe⟩ := M.obj
  obtain ⟨mA, hns, hv, hno⟩ := M.ns
  obtain ⟨G', g1, g2⟩ := restrict h' fun b => decide (b ≠ e)
  have gk : ∀ b, b ≠ e → G'.get? b = h'.get? b := fun b hb => g1 b (decide_eq_true hb)
  have ge : G'.get? e = none := g2 e (by simp)
  have old : ∀ b o, hp.get? b = some o → G'.get? b = some o := fun b o q => (gk b (Nat.ne_of_lt (Nat.lt_of_lt_of_le (Heap.lt_size q) M.new))).trans (M.keep b o q)
  have ob : ObjOk X.prog X.w (upd H1 d (.xd (fs.zip vs))) G' d (.xd (fs.zip vs)) :=
    ⟨_, hns.at (fun o q => (gk d M.dne).trans q), zip_rel r1 hlen hv hno (List.nodup_cons.mp T.nd).2⟩
  have J : Inv X pins σ (upd H1 d (.xd (fs.zip vs))) ⟨G', g, dr, tk', os⟩ := I1.laid (t' := tk') old M.dbig ob
  refine ⟨e, _, _, ⟨G', g, dr, tk', os⟩, _, .ref C, some d, rfl, J, fun b o q => ?_, ge, hoe, ⟨rfl, rfl, fun vs hvs => ?_⟩, rfl, rfl, ?_, rfl, I1.bare, raises_own T.exC T.tyC, q d (I1.hok.fresh M.dbig)⟩
  · by_cases hb : b = e
    · have q' : G'.get? b = some o := q
      rw [hb, ge] at q'; cases q'
    · exact (gk b hb).symm.trans q
  · cases hvs
    rfl
  · rw [upd_ne (Ne.symm M.dne)]
    exact I1.hok.fresh M.new
theorem pmk_own (T : LkX.ExcTxt X.prog X.K C fI fs) (hfs : fs ≠ []) (hr : Room k X.A) (hm : X.mg x = some (.ref C)) (ha : PA X (e :: es) ta) (hg : Gl X x) (hdb : (x == ("__debug__" : Str)) = false := by decide)
    (he : starEach (e :: es) X.env = (false, eval e X.env) :: starEach es X.env := by rfl) (hpl : (backTo pos (starEach es X.env)).any (·.1) = false := by rfl) :
    L2N.PMk X (.Call (.Name x p) (e :: es) [] pos) (tMkX C fs ta) := by
  intro pins s σ H Q I h
  refine wpAny_Call_Name_kw (ld_glob I hg hm ?_ hdb)
  refine PySem.W.callWith_K (h₀ := X.base) I.ok.mod.kin T.kC (thn (ha.run pos pins s σ H _ I h) fun us s1 ⟨vs, H1, I1, r1, hl, q1⟩ => ⟨I1.kIn, ?_⟩) he hpl
  exact made_at T I1 r1 hl hfs (by have := hr.dp; omega) q1
end
end Lk
namespace Lk
open PySem PySem.Spec PyProof.Rows L2

/-! ### defs as they are called -/
/-- the def at f keeps sp, by some code -/
def FnA (P : Program) (w : World) (K : PySem.W.Frag) (mg : Str → Option Value) (base : Heap) (k : Nat) (f : Addr) (ps : List Str) (sp : Sp) : Prop :=
  ∃ fd, FnOk P w K mg base (L2N.CX P w) k f fd ps sp ∧ Binds K fd ps []
def FnHA (P : Program) (w : World) (K : PySem.W.Frag) (mg : Str → Option Value) (base : Heap) (k : Nat) (f : Addr) (ps : List Str) (sp : Sp) : Prop :=
  ∃ fd, L2H.FnH P w K mg base (L2N.CX P w) k f fd ps sp ∧ Binds K fd ps []
/-- the module's name x holds the def at f -/
structure Nm (K : PySem.W.Frag) (mg : Str → Option Value) (x : Str) (f : Addr) : Prop where
  m : mg x = some (.ref f)
  k : PySem.W.keepIn K (.ref f) = true
theorem takes0 {X : Cx} : L2N.Takes X (fun _ _ _ _ => False) := fun _ _ x => by
  obtain ⟨_, _, _, _, _, _, _, _, _, _, _, _, _, _, _, _, z⟩ := x
  exact z.elim
section
variable {X : Cx} {k : Nat} {f : Addr} {ps : List Str} {sp : Sp} {W : WX} {x : Str} {p pos : Pos} {e : Expr} {es : List Expr} {t : TA}
theorem pe_callA (G : FnA X.prog X.w X.K X.mg X.base k f ps sp) (hr : Room k X.A) (hm : Nm X.K X.mg x f) (tk : L2N.Takes X W)
    (ha : PA X (e :: es) t) (hg : Gl X x := by rfl) (hdb : (x == ("__debug__" : Str)) = false := by decide) (he : starEach (e :: es) X.env = (false, eval e X.env) :: starEach es X.env := by rfl) (hpl : (backTo pos (starEach es X.env)).any (·.1) = false := by rfl) :
    PE X (.Call (.Name x p) (e :: es) [] pos) (tCallS sp (WE W) t) := by
  obtain ⟨fd, F, b⟩ := G
  exact pe_callS F hr hg hm.m hm.k b (fun σ => L2N.passAt tk σ) ha hdb he hpl
theorem pe_callHA (G : FnHA X.prog X.w X.K X.mg X.base k f ps sp) (hr : L2H.RoomH k X.A) (hc : L2H.HotC X) (hm : Nm X.K X.mg x f)
    (ha : PA X (e :: es) t) (hg : Gl X x := by rfl) (hdb : (x == ("__debug__" : Str)) = false := by decide) (he : starEach (e :: es) X.env = (false, eval e X.env) :: starEach es X.env := by rfl) (hpl : (backTo pos (starEach es X.env)).any (·.1) = false := by rfl) :
    PE X (.Call (.Name x p) (e :: es) [] pos) (tCallS sp (fun _ => E0) t) := by
  obtain ⟨fd, F, b⟩ := G
  exact L2H.pe_callH F hr hc hg hm.m hm.k b (fun σ => L2N.passAt takes0 σ) ha hdb he hpl
end
section
variable {P : Program} {w : World} {K : PySem.W.Frag} {mg : Str → Option Value} {base : Heap}
/-- a def's body, raising or not -/
theorem FnA.of {x qual : Str} {st : Stmt} {f : Addr} {fd : FuncData} {N ps : List Str} {k : Nat} {sp : Sp} (F : Fun K x qual st f fd) (S : FnScope N ps (defScope st)) (b : Binds K fd ps []) (len : ∀ vs H Q E, sp vs H Q E → vs.length = ps.length)
    (hbody : ∀ (cdv : Value) (A : Around) (outer : List Env) (s : Shared) (H : Hp) (vs : List V) (Q : VK) (E : XK), Room k (A.deeper (envOfC qual (defScope st) s.heap.objs.size f cdv)) → L2N.Takes (cxOf (L2N.CX P w) P w K mg base N qual (defScope st) f cdv A outer s H E) (fun cls d _ H' => E cls d H') →
      PassesOwn (model P w) (cxOf (L2N.CX P w) P w K mg base N qual (defScope st) f cdv A outer s H E).A (cxOf (L2N.CX P w) P w K mg base N qual (defScope st) f cdv A outer s H E).env (cxOf (L2N.CX P w) P w K mg base N qual (defScope st) f cdv A outer s H E).xe → sp vs H Q E →
      ∃ t, PSs (cxOf (L2N.CX P w) P w K mg base N qual (defScope st) f cdv A outer s H E) (defBody st) t ∧ t { nx := fun _ H' => Q .non H', rt := Q } (start N vs) H) : FnA P w K mg base (k + 1) f ps sp := by
  obtain ⟨oc, od, kV, doc, pm, an, cdv, ct, osl, rfl, lk, hcd⟩ := F.ex
  exact ⟨_, fn_of lk hcd S len fun A outer s H vs Q E hr hsp => hbody cdv A outer s H vs Q E hr (L2N.takes_of rfl rfl rfl rfl) (passes_of rfl) hsp, b⟩
theorem FnHA.of {x qual : Str} {st : Stmt} {f : Addr} {fd : FuncData} {N ps : List Str} {k : Nat} {sp : Sp} (F : Fun K x qual st f fd) (S : FnScope N ps (defScope st)) (b : Binds K fd ps []) (len : ∀ vs H Q E, sp vs H Q E → vs.length = ps.length)
    (hbody : ∀ (cdv : Value) (A : Around) (outer : List Env) (s : Shared) (H : Hp) (vs : List V) (Q : VK) (E : XK) (p : Addr × Obj), L2H.Hot1 A p → L2H.RoomH k (A.deeper (envOfC qual (defScope st) s.heap.objs.size f cdv)) → L2H.HotC (L2H.cxH (L2N.CX P w) P w K mg base N qual (defScope st) f cdv A outer s H E p) →
      PassesOwn (model P w) (L2H.cxH (L2N.CX P w) P w K mg base N qual (defScope st) f cdv A outer s H E p).A (L2H.cxH (L2N.CX P w) P w K mg base N qual (defScope st) f cdv A outer s H E p).env (L2H.cxH (L2N.CX P w) P w K mg base N qual (defScope st) f cdv A outer s H E p).xe → sp vs H Q E →
      ∃ t, PSs (L2H.cxH (L2N.CX P w) P w K mg base N qual (defScope st) f cdv A outer s H E p) (defBody st) t ∧ t { nx := fun _ H' => Q .non H', rt := Q } (start N vs) H) : FnHA P w K mg base (k + 1) f ps sp := by
  obtain ⟨oc, od, kV, doc, pm, an, cdv, ct, osl, rfl, lk, hcd⟩ := F.ex
  exact ⟨_, L2H.fn_ofH lk hcd S len fun A outer s H vs Q E p hot hr hsp => hbody cdv A outer s H vs Q E p hot hr ⟨p, ⟨hot.1, hot.2⟩, List.mem_cons_self⟩ (passes_of rfl) hsp, b⟩
end

/-! ### heaps -/
/-- all that was tracked stands, but for ms -/
def Kp (ms : List Addr) (H H' : Hp) : Prop := ∀ a o, H a = some o → a ∉ ms → H' a = some o
theorem Kp.refl {ms : List Addr} {H : Hp} : Kp ms H H := fun _ _ h _ => h
theorem Kp.at {ms : List Addr} {H H' : Hp} {a : Addr} {o : HO} (k : Kp ms H H') (h : H a = some o) (n : a ∉ ms) : H' a = some o := k a o h n
theorem Kp.at0 {H H' : Hp} {a : Addr} {o : HO} (k : Kp [] H H') (h : H a = some o) : H' a = some o := k a o h List.not_mem_nil
theorem Kp.trans {ms : List Addr} {H H1 H2 : Hp} (a : Kp ms H H1) (b : Kp ms H1 H2) : Kp ms H H2 := fun c o h n => b c o (a c o h n) n
theorem Kp.trans0 {ms : List Addr} {H H1 H2 : Hp} (a : Kp ms H H1) (b : Kp [] H1 H2) : Kp ms H H2 := fun c o h n => b c o (a c o h n) List.not_mem_nil
theorem Kp.mono {ms ns : List Addr} {H H1 : Hp} (a : Kp ms H H1) (h : ∀ x ∈ ms, x ∈ ns) : Kp ns H H1 := fun c o e n => a c o e (fun z => n (h c z))
theorem Kp.new {ms : List Addr} {H H1 : Hp} {p : Addr} {o : HO} (k : Kp ms H H1) (h : H1 p = none) : Kp ms H (upd H1 p o) := fun a u e n => by
  rw [upd_ne (ne_of_none (k a u e n) h)]
  exact k a u e n
theorem Kp.mut {ms : List Addr} {H H1 : Hp} {p : Addr} {o : HO} (k : Kp ms H H1) (h : p ∈ ms) : Kp ms H (upd H1 p o) := fun a u e n => by
  rw [upd_ne (fun z => n (by rw [z]; exact h))]
  exact k a u e n
/-- an object that was not there at the beginning is changed -/
theorem Kp.own {ms : List Addr} {H H1 : Hp} {p : Addr} {o : HO} (k : Kp ms H H1) (h : H p = none) : Kp ms H (upd H1 p o) := fun a u e n => by
  rw [upd_ne (ne_of_none e h)]
  exact k a u e n
theorem Kp.free {H H' : Hp} {a : Addr} (k : Kp [] H H') (h : H' a = none) : H a = none := by
  cases q : H a with
  | none => rfl
  | some o => rw [k a o q List.not_mem_nil] at h; cases h
theorem Kp.freeM {ms : List Addr} {H H' : Hp} {a : Addr} (k : Kp ms H H') (h : H' a = none) (hm : ∀ b ∈ ms, ∃ o, H' b = some o) : H a = none := by
  cases q : H a with
  | none => rfl
  | some o =>
    by_cases z : a ∈ ms
    · obtain ⟨o', e⟩ := hm a z
      rw [h] at e; cases e
    · rw [k a o q z] at h; cases h
theorem upd_get {H : Hp} {p a : Addr} {o u : HO} (n : a ≠ p) (h : H a = some u) : upd H p o a = some u := by rw [upd_ne n]; exact h
theorem upd_nil {H : Hp} {p a : Addr} {o : HO} (h : upd H p o a = none) : H a = none := by
  unfold upd at h
  split at h
  · cases h
  · exact h
theorem upd_nel {H : Hp} {p a : Addr} {o : HO} (h : upd H p o a = none) : a ≠ p := fun z => by
  rw [z, upd_same] at h; cases h

/-! ### lists under a map -/
theorem map_getD {α : Type} [Inhabited α] {f : α → V} {xs : List α} {i : Nat} (h : i < xs.length) : (xs.map f)[i]? = some (f (xs.getD i default)) := by
  rw [List.getElem?_map, List.getElem?_eq_getElem h]
  simp [List.getD, List.getElem?_eq_getElem h]
theorem getD_some {α : Type} [Inhabited α] {xs : List α} {i : Nat} (h : i < xs.length) : xs[i]? = some (xs.getD i default) := by
  rw [List.getElem?_eq_getElem h]
  simp [List.getD, List.getElem?_eq_getElem h]
theorem atI_pos {α : Type} {xs : List α} {i : Int} {v : α} (h0 : 0 ≤ i) (h : xs[i.toNat]? = some v) : atI xs i = some v := by
  have e : i = ((i.toNat : Nat) : Int) := by omega
  rw [e]
  exact atI_nat (by simpa using h)
theorem ixN_pos {n : Nat} {i : Int} (h0 : 0 ≤ i) (h : i.toNat < n) : ixN n i = some i.toNat := by
  unfold ixN
  rw [if_pos h0, if_pos (by omega)]
theorem map_set {α : Type} {f : α → V} {xs : List α} {i : Nat} {x : α} : (xs.map f).set i (f x) = (xs.set i x).map f := by
  rw [List.map_set]
theorem map_app {α : Type} {f : α → V} {xs : List α} {x : α} : xs.map f ++ [f x] = (xs ++ [x]).map f := by
  rw [List.map_append]; rfl

/-! ### readings by values -/
/-- a + b -/
def aAdd : R2 := fun x y H Q => rI0 (fun i j => .int (i + j)) x y H Q ∨ (∃ i j, x = .str i ∧ y = .str j ∧ i.length + j.length ≤ sizeLine ∧ Q (.str (i ++ j)) H) ∨ rCat x y H Q
/-- a * b -/
def aMul : R2 := fun x y H Q => rI CMul (fun i j => .int (i * j)) x y H Q ∨ rRep x y H Q
/-- x == y of lists of flat things -/
def aEq (K : PySem.W.Frag) : R2 := fun x y H Q => rEq x y H Q ∨ rEqD K x y H Q
def aNe (K : PySem.W.Frag) : R2 := fun x y H Q => rNe x y H Q ∨ rNeD K x y H Q
section
variable {X : Cx}
theorem o_add : OpR X (binaryOp .Add) aAdd := op_add.or (op_add_str.or op_cat)
theorem o_mul : OpR X (binaryOp .Mult) aMul := op_mul.or op_rep
theorem o_eq (hu : X.A.units + 64 < cLine) : OpR X (compareOp .Eq) (aEq X.K) := op_eq.or (op_eqD hu)
theorem o_ne (hu : X.A.units + 64 < cLine) : OpR X (compareOp .NotEq) (aNe X.K) := op_ne.or (op_neD hu)
end
section
variable {i j : Int} {a b : Str} {p q : Addr} {H : Hp} {Q : VK} {xs ys : List V} {K : PySem.W.Frag}
theorem w_addI (k : Q (.int (i + j)) H) : aAdd (.int i) (.int j) H Q := .inl ⟨i, j, rfl, rfl, k⟩
theorem w_addS (h : a.length + b.length ≤ sizeLine) (k : Q (.str (a ++ b)) H) : aAdd (.str a) (.str b) H Q := .inr (.inl ⟨a, b, rfl, rfl, h, k⟩)
theorem w_addLM {α : Type} {f : α → V} {us vs : List α} (hp : H p = some (.lst (us.map f))) (hq : H q = some (.lst (vs.map f))) (hl : us.length + vs.length ≤ sizeLine) (k : ∀ r, H r = none → Q (.ref r) (upd H r (.lst ((us ++ vs).map f)))) : aAdd (.ref p) (.ref q) H Q :=
  .inr (.inr ⟨p, q, _, _, rfl, rfl, hp, hq, by simpa using hl, fun r hr => by rw [← List.map_append]; exact k r hr⟩)
theorem w_addL (hp : H p = some (.lst xs)) (hq : H q = some (.lst ys)) (hl : xs.length + ys.length ≤ sizeLine) (k : ∀ r, H r = none → Q (.ref r) (upd H r (.lst (xs ++ ys)))) : aAdd (.ref p) (.ref q) H Q :=
  .inr (.inr ⟨p, q, _, _, rfl, rfl, hp, hq, hl, k⟩)
theorem w_mulI (h : CMul i j) (k : Q (.int (i * j)) H) : aMul (.int i) (.int j) H Q := .inl ⟨i, j, rfl, rfl, h, k⟩
theorem rep_map {α : Type} {f : α → V} {x : α} {n : Nat} : (List.replicate n [f x]).flatten = (List.replicate n x).map f := by
  induction n with
  | zero => rfl
  | succ n ih => rw [List.replicate_succ, List.flatten_cons, ih, List.replicate_succ]; rfl
theorem w_repI (hp : H p = some (.lst [.int i])) (h1 : -(2 ^ 63) ≤ j) (h2 : j < 2 ^ 63) (h3 : j.toNat ≤ sizeLine) (k : ∀ r, H r = none → Q (.ref r) (upd H r (.lst ((List.replicate j.toNat i).map V.int)))) : aMul (.ref p) (.int j) H Q :=
  .inr ⟨p, j, _, rfl, rfl, hp, h1, h2, by simpa using h3, fun r hr => by rw [rep_map (f := V.int)]; exact k r hr⟩
theorem w_repB {c : Bool} (hp : H p = some (.lst [.bl c])) (h1 : -(2 ^ 63) ≤ j) (h2 : j < 2 ^ 63) (h3 : j.toNat ≤ sizeLine) (k : ∀ r, H r = none → Q (.ref r) (upd H r (.lst ((List.replicate j.toNat c).map V.bl)))) : aMul (.ref p) (.int j) H Q :=
  .inr ⟨p, j, _, rfl, rfl, hp, h1, h2, by simpa using h3, fun r hr => by rw [rep_map (f := V.bl)]; exact k r hr⟩
theorem w_I0 {g : Int → Int → V} (k : Q (g i j) H) : rI0 g (.int i) (.int j) H Q := ⟨i, j, rfl, rfl, k⟩
theorem w_I {C : Int → Int → Prop} {g : Int → Int → V} (c : C i j) (k : Q (g i j) H) : rI C g (.int i) (.int j) H Q := ⟨i, j, rfl, rfl, c, k⟩
theorem w_U {g : Int → V} (k : Q (g i) H) : rU g (.int i) H Q := ⟨i, rfl, k⟩
theorem dI : decide (V.int i = V.int j) = decide (i = j) := by simp
theorem dS : decide (V.str a = V.str b) = decide (a = b) := by simp
theorem dB {c d : Bool} : decide (V.bl c = V.bl d) = decide (c = d) := by simp
theorem w_eqI (k : Q (.bl (decide (i = j))) H) : aEq K (.int i) (.int j) H Q := .inl ⟨rfl, by rw [dI]; exact k⟩
theorem w_eqS (k : Q (.bl (decide (a = b))) H) : aEq K (.str a) (.str b) H Q := .inl ⟨rfl, by rw [dS]; exact k⟩
theorem w_eqB {c d : Bool} (k : Q (.bl (decide (c = d))) H) : aEq K (.bl c) (.bl d) H Q := .inl ⟨rfl, by rw [dB]; exact k⟩
theorem w_neI (k : Q (.bl (!decide (i = j))) H) : aNe K (.int i) (.int j) H Q := .inl ⟨rfl, by rw [dI]; exact k⟩
theorem w_neS (k : Q (.bl (!decide (a = b))) H) : aNe K (.str a) (.str b) H Q := .inl ⟨rfl, by rw [dS]; exact k⟩
theorem w_neB {c d : Bool} (k : Q (.bl (!decide (c = d))) H) : aNe K (.bl c) (.bl d) H Q := .inl ⟨rfl, by rw [dB]; exact k⟩

theorem eqvAll_int : ∀ (ns ms : List Int), PyData.eqvAll (ns.map PyData.int) (ms.map PyData.int) = decide (ns = ms) := by
  intro ns
  induction ns with
  | nil => intro ms; cases ms <;> simp [PyData.eqvAll]
  | cons n ns ih =>
    intro ms
    cases ms with
    | nil => simp [PyData.eqvAll]
    | cons m ms =>
      rw [List.map_cons, List.map_cons, PyData.eqvAll, ih, PyData.eqv, Bool.eq_iff_iff]
      simp
theorem dpAllI : ∀ (ns : List Int), DpAll K H (ns.map V.int) (ns.map PyData.int)
  | [] => .nil
  | n :: ns => .cons (.int n) (dpAllI ns)
theorem shapedI (ns : List Int) : SeqAt.shaped (.list (ns.map PyData.int)) = true := by
  have h1 : ∀ ns : List Int, PyData.canLayAll0 (ns.map PyData.int) = true := by
    intro ns
    induction ns with
    | nil => rfl
    | cons n ns ih => rw [List.map_cons, PyData.canLayAll0, ih]; rfl
  have h2 : ∀ ns : List Int, PyData.depthAll (ns.map PyData.int) = 0 := by
    intro ns
    induction ns with
    | nil => rfl
    | cons n ns ih => rw [List.map_cons, PyData.depthAll, ih]; rfl
  unfold SeqAt.shaped
  rw [PyData.canLay0, h1, PyData.depth, h2]
  decide
theorem w_eqLI {ns ms : List Int} (hp : SqL K H p (ns.map V.int)) (hq : SqL K H q (ms.map V.int)) (k : Q (.bl (decide (ns = ms))) H) : aEq K (.ref p) (.ref q) H Q :=
  .inr ⟨_, _, .lst hp (dpAllI ns), .lst hq (dpAllI ms), shapedI ns, shapedI ms, by rw [PyData.eqv, eqvAll_int]; exact k⟩
theorem w_neLI {ns ms : List Int} (hp : SqL K H p (ns.map V.int)) (hq : SqL K H q (ms.map V.int)) (k : Q (.bl (!decide (ns = ms))) H) : aNe K (.ref p) (.ref q) H Q :=
  .inr ⟨_, _, .lst hp (dpAllI ns), .lst hq (dpAllI ms), shapedI ns, shapedI ms, by rw [PyData.eqv, eqvAll_int]; exact k⟩
end
/-- is None -/
def aIsN : R2 := fun x y H Q => y = .non ∧ Q (.bl (decide (x = .non))) H
def aNotN : R2 := fun x y H Q => y = .non ∧ Q (.bl (!decide (x = .non))) H
theorem o_isN {X : Cx} : OpR X (compareOp .Is) aIsN := op_isN
theorem o_notN {X : Cx} : OpR X (compareOp .IsNot) aNotN := op_notN
section
variable {i j : Int} {a b : Str} {p q : Addr} {H : Hp} {Q : VK} {xs ys : List V} {K : PySem.W.Frag} {x v : V}
theorem w_isN_n (k : Q (.bl true) H) : aIsN .non .non H Q := ⟨rfl, k⟩
theorem w_isN_i (k : Q (.bl false) H) : aIsN (.int i) .non H Q := ⟨rfl, k⟩
theorem w_isN_r (k : Q (.bl false) H) : aIsN (.ref p) .non H Q := ⟨rfl, k⟩
theorem w_isN_s (k : Q (.bl false) H) : aIsN (.str a) .non H Q := ⟨rfl, k⟩
theorem w_notN_n (k : Q (.bl false) H) : aNotN .non .non H Q := ⟨rfl, k⟩
theorem w_notN_i (k : Q (.bl true) H) : aNotN (.int i) .non H Q := ⟨rfl, k⟩
theorem w_notN_r (k : Q (.bl true) H) : aNotN (.ref p) .non H Q := ⟨rfl, k⟩
theorem w_notN_s (k : Q (.bl true) H) : aNotN (.str a) .non H Q := ⟨rfl, k⟩
/-! x[i] -/
theorem w_ixC {xs : List V} {n : Nat} (hp : H p = some (.lst xs)) (hv : xs[n]? = some v) (k : Q v H) : rIx K (.ref p) (.int (n : Int)) H Q := .inl ⟨p, _, _, v, rfl, rfl, SqL.of hp, atI_nat hv, k⟩
theorem w_ixM {α : Type} [Inhabited α] {f : α → V} {us : List α} (hp : H p = some (.lst (us.map f))) (h0 : 0 ≤ i) (hl : i.toNat < us.length) (k : Q (f (us.getD i.toNat default)) H) : rIx K (.ref p) (.int i) H Q :=
  .inl ⟨p, _, _, _, rfl, rfl, SqL.of hp, atI_pos h0 (map_getD hl), k⟩
theorem w_ixL (hp : H p = some (.lst xs)) (h0 : 0 ≤ i) (hv : xs[i.toNat]? = some v) (k : Q v H) : rIx K (.ref p) (.int i) H Q :=
  .inl ⟨p, _, _, v, rfl, rfl, SqL.of hp, atI_pos h0 hv, k⟩
theorem w_ixT (hp : H p = some (.tup xs)) (h0 : 0 ≤ i) (hv : xs[i.toNat]? = some v) (k : Q v H) : rIx K (.ref p) (.int i) H Q :=
  .inr (.inl ⟨p, _, _, v, rfl, rfl, .inl (.inl hp), atI_pos h0 hv, k⟩)
theorem w_ixS {c : Nat} (hl : a.length ≤ sizeLine) (h0 : 0 ≤ i) (hv : a.cps.toList[i.toNat]? = some c) (k : Q (.str ⟨#[c]⟩) H) : rIx K (.str a) (.int i) H Q :=
  .inr (.inr ⟨a, _, c, rfl, rfl, hl, atI_pos h0 hv, k⟩)
/-! x[i] = v -/
theorem w_setM {α : Type} {f : α → V} {us : List α} {u : α} {Q : Hp → Prop} (hp : H p = some (.lst (us.map f))) (h0 : 0 ≤ i) (hl : i.toNat < us.length) (k : Q (upd H p (.lst ((us.set i.toNat u).map f)))) : rSetL (.ref p) (.int i) (f u) H Q :=
  ⟨p, _, _, i.toNat, rfl, rfl, hp, ixN_pos h0 (by simpa using hl), by rw [map_set]; exact k⟩
theorem w_setMI {us : List Int} {u : Int} {Q : Hp → Prop} (hp : H p = some (.lst (us.map V.int))) (h0 : 0 ≤ i) (hl : i.toNat < us.length) (k : Q (upd H p (.lst ((us.set i.toNat u).map V.int)))) : rSetL (.ref p) (.int i) (.int u) H Q := w_setM hp h0 hl k
theorem w_setMB {us : List Bool} {u : Bool} {Q : Hp → Prop} (hp : H p = some (.lst (us.map V.bl))) (h0 : 0 ≤ i) (hl : i.toNat < us.length) (k : Q (upd H p (.lst ((us.set i.toNat u).map V.bl)))) : rSetL (.ref p) (.int i) (.bl u) H Q := w_setM hp h0 hl k
theorem w_setMS {us : List Str} {u : Str} {Q : Hp → Prop} (hp : H p = some (.lst (us.map V.str))) (h0 : 0 ≤ i) (hl : i.toNat < us.length) (k : Q (upd H p (.lst ((us.set i.toNat u).map V.str)))) : rSetL (.ref p) (.int i) (.str u) H Q := w_setM hp h0 hl k
theorem w_setL {u : V} {Q : Hp → Prop} (hp : H p = some (.lst xs)) (h0 : 0 ≤ i) (hl : i.toNat < xs.length) (k : Q (upd H p (.lst (xs.set i.toNat u)))) : rSetL (.ref p) (.int i) u H Q :=
  ⟨p, _, _, i.toNat, rfl, rfl, hp, ixN_pos h0 hl, k⟩
/-! methods of lists: the type is asked first -/
theorem w_tyL (hp : H p = some (.lst xs)) (k : A) : tyV K "list" (.ref p) H ∧ A := ⟨.inl ⟨rfl, _, SqL.of hp⟩, k⟩
theorem w_tyS (k : A) : tyV K "str" (.str a) H ∧ A := ⟨rfl, k⟩
theorem w_appMI {us : List Int} {u : Int} (hp : H p = some (.lst (us.map V.int))) (hl : us.length < sizeLine) (k : Q .non (upd H p (.lst ((us ++ [u]).map V.int)))) : rAppend (.ref p) [.int u] H Q := ⟨p, _, _, rfl, rfl, hp, by simpa using hl, by rw [map_app (f := V.int)]; exact k⟩
theorem w_appMS {us : List Str} {u : Str} (hp : H p = some (.lst (us.map V.str))) (hl : us.length < sizeLine) (k : Q .non (upd H p (.lst ((us ++ [u]).map V.str)))) : rAppend (.ref p) [.str u] H Q := ⟨p, _, _, rfl, rfl, hp, by simpa using hl, by rw [map_app (f := V.str)]; exact k⟩
theorem w_appMB {us : List Bool} {u : Bool} (hp : H p = some (.lst (us.map V.bl))) (hl : us.length < sizeLine) (k : Q .non (upd H p (.lst ((us ++ [u]).map V.bl)))) : rAppend (.ref p) [.bl u] H Q := ⟨p, _, _, rfl, rfl, hp, by simpa using hl, by rw [map_app (f := V.bl)]; exact k⟩
theorem w_appL {u : V} (hp : H p = some (.lst xs)) (hl : xs.length < sizeLine) (k : Q .non (upd H p (.lst (xs ++ [u])))) : rAppend (.ref p) [u] H Q := ⟨p, _, _, rfl, rfl, hp, hl, k⟩
theorem w_rev (hp : H p = some (.lst xs)) (k : Q .non (upd H p (.lst xs.reverse))) : rReverse (.ref p) [] H Q := ⟨p, _, rfl, rfl, hp, k⟩
def rInsert : V → List V → Hp → VK → Prop := fun x vs H Q => ∃ (l : Addr) (xs : List V) (i : Int) (y : V), x = .ref l ∧ vs = [.int i, y] ∧ H l = some (.lst xs) ∧ xs.length < sizeLine ∧ 0 ≤ i ∧ i < 2 ^ 63 ∧ Q .non (upd H l (.lst (xs.take i.toNat ++ [y] ++ xs.drop i.toNat)))
theorem m_insert {X : Cx} : MtR X "list.insert" rInsert := mt_insert
def insAt {α : Type} (us : List α) (n : Nat) (u : α) : List α := us.take n ++ [u] ++ us.drop n
theorem w_insMI {us : List Int} {u : Int} (hp : H p = some (.lst (us.map V.int))) (hl : us.length < sizeLine) (h0 : 0 ≤ i) (h1 : i < 2 ^ 63) (k : Q .non (upd H p (.lst ((insAt us i.toNat u).map V.int)))) : rInsert (.ref p) [.int i, .int u] H Q :=
  ⟨p, _, _, _, rfl, rfl, hp, by simpa using hl, h0, h1, by rw [← List.map_take, ← List.map_drop, map_app (f := V.int), ← List.map_append]; exact k⟩
theorem w_insMS {us : List Str} {u : Str} (hp : H p = some (.lst (us.map V.str))) (hl : us.length < sizeLine) (h0 : 0 ≤ i) (h1 : i < 2 ^ 63) (k : Q .non (upd H p (.lst ((insAt us i.toNat u).map V.str)))) : rInsert (.ref p) [.int i, .str u] H Q :=
  ⟨p, _, _, _, rfl, rfl, hp, by simpa using hl, h0, h1, by rw [← List.map_take, ← List.map_drop, map_app (f := V.str), ← List.map_append]; exact k⟩
/-! built-ins -/
def rLen (K : PySem.W.Frag) : List V → Hp → VK → Prop := fun xs H Q => ∃ x n, xs = [x] ∧ LenV K x H n ∧ Q (.int n) H
theorem b_len {X : Cx} : CallR X (.builtin "len") (rLen X.K) := call_len
theorem w_lenL (hp : H p = some (.lst xs)) (k : Q (.int xs.length) H) : rLen K [.ref p] H Q := ⟨_, _, rfl, .inl ⟨_, SqL.of hp, rfl⟩, k⟩
theorem w_lenM {α : Type} {f : α → V} {us : List α} (hp : H p = some (.lst (us.map f))) (k : Q (.int us.length) H) : rLen K [.ref p] H Q := ⟨_, _, rfl, .inl ⟨_, SqL.of hp, rfl⟩, by rw [List.length_map]; exact k⟩
theorem w_lenT (hp : H p = some (.tup xs)) (k : Q (.int xs.length) H) : rLen K [.ref p] H Q := ⟨_, _, rfl, .inr ⟨_, .inl (.inl hp), rfl⟩, k⟩
theorem w_lenS (hl : a.length ≤ sizeLine) (k : Q (.int a.length) H) : rLen K [.str a] H Q := ⟨_, _, rfl, ⟨hl, rfl⟩, k⟩
def rAbs : List V → Hp → VK → Prop := fun xs H Q => ∃ i, xs = [.int i] ∧ Q (.int (if i < 0 then -i else i)) H
theorem b_abs {X : Cx} : CallR X (.builtin "abs") rAbs := call_abs
theorem abs_nat (i : Int) : (if i < 0 then -i else i) = (i.natAbs : Int) := by split <;> omega
theorem w_abs (k : Q (.int (i.natAbs : Int)) H) : rAbs [.int i] H Q := ⟨i, rfl, by rw [abs_nat]; exact k⟩
def rMax2 : List V → Hp → VK → Prop := fun xs H Q => ∃ i j, xs = [.int i, .int j] ∧ Q (.int (if j > i then j else i)) H
def rMin2 : List V → Hp → VK → Prop := fun xs H Q => ∃ i j, xs = [.int i, .int j] ∧ Q (.int (if j < i then j else i)) H
theorem b_max2 {X : Cx} (hc : X.calm = true) : CallR X (.builtin "max") rMax2 := call_max2 hc
theorem b_min2 {X : Cx} (hc : X.calm = true) : CallR X (.builtin "min") rMin2 := call_min2 hc
theorem w_max2 (k : Q (.int (max i j)) H) : rMax2 [.int i, .int j] H Q := ⟨i, j, rfl, by rw [show (if j > i then j else i) = max i j by split <;> omega]; exact k⟩
theorem w_min2 (k : Q (.int (min i j)) H) : rMin2 [.int i, .int j] H Q := ⟨i, j, rfl, by rw [show (if j < i then j else i) = min i j by split <;> omega]; exact k⟩
def rInt1 : List V → Hp → VK → Prop := fun xs H Q => (∃ i, xs = [.int i] ∧ Q (.int i) H) ∨ ∃ k, xs = [.bl k] ∧ Q (.int (if k then 1 else 0)) H
theorem b_int {X : Cx} : CallR X (.type "int") rInt1 := call_int1
theorem w_int (k : Q (.int i) H) : rInt1 [.int i] H Q := .inl ⟨i, rfl, k⟩
def rListOf (K : PySem.W.Frag) : List V → Hp → VK → Prop := fun xs H Q => ∃ p ys, xs = [.ref p] ∧ (SqL K H p ys ∨ SqT K H p ys) ∧ ∀ l, H l = none → Q (.ref l) (upd H l (.lst ys))
theorem b_list {X : Cx} : CallR X (.type "list") (rListOf X.K) := call_list_of
theorem w_listL (hp : H p = some (.lst xs)) (k : ∀ l, H l = none → Q (.ref l) (upd H l (.lst xs))) : rListOf K [.ref p] H Q := ⟨p, _, rfl, .inl (SqL.of hp), k⟩
theorem w_listT (hp : H p = some (.tup xs)) (k : ∀ l, H l = none → Q (.ref l) (upd H l (.lst xs))) : rListOf K [.ref p] H Q := ⟨p, _, rfl, .inr (.inl (.inl hp)), k⟩
/-! isinstance -/
section
variable {n : String} {c : Bool}
theorem w_isiI (e : kitB "int" n = some c) (k : Q (.bl c) H) : rIsi K [.int i, .ty n] H Q := ⟨_, _, _, _, c, rfl, .ty n, .base (.int i), kit_ty e, k⟩
theorem w_isiB {d : Bool} (e : kitB "bool" n = some c) (k : Q (.bl c) H) : rIsi K [.bl d, .ty n] H Q := ⟨_, _, _, _, c, rfl, .ty n, .base (.bl d), kit_ty e, k⟩
theorem w_isiS (e : kitB "str" n = some c) (k : Q (.bl c) H) : rIsi K [.str a, .ty n] H Q := ⟨_, _, _, _, c, rfl, .ty n, .base (.str a), kit_ty e, k⟩
theorem w_isiN (e : kitB "NoneType" n = some c) (k : Q (.bl c) H) : rIsi K [.non, .ty n] H Q := ⟨_, _, _, _, c, rfl, .ty n, .base .non, kit_ty e, k⟩
theorem w_isiL (hp : H p = some (.lst xs)) (e : kitB "list" n = some c) (k : Q (.bl c) H) : rIsi K [.ref p, .ty n] H Q := ⟨_, _, _, _, c, rfl, .ty n, .base (.lst hp), kit_ty e, k⟩
theorem w_isiT (hp : H p = some (.tup xs)) (e : kitB "tuple" n = some c) (k : Q (.bl c) H) : rIsi K [.ref p, .ty n] H Q := ⟨_, _, _, _, c, rfl, .ty n, .base (.tup hp), kit_ty e, k⟩
end
theorem kb_ii : kitB "int" "int" = some true := by decide +kernel
theorem kb_ib : kitB "int" "bool" = some false := by decide +kernel
theorem kb_is : kitB "int" "str" = some false := by decide +kernel
theorem kb_il : kitB "int" "list" = some false := by decide +kernel
theorem kb_it : kitB "int" "tuple" = some false := by decide +kernel
theorem kb_bi : kitB "bool" "int" = some true := by decide +kernel
theorem kb_bb : kitB "bool" "bool" = some true := by decide +kernel
theorem kb_bt : kitB "bool" "tuple" = some false := by decide +kernel
theorem kb_ss : kitB "str" "str" = some true := by decide +kernel
theorem kb_si : kitB "str" "int" = some false := by decide +kernel
theorem kb_st : kitB "str" "tuple" = some false := by decide +kernel
theorem kb_sl : kitB "str" "list" = some false := by decide +kernel
theorem kb_ll : kitB "list" "list" = some true := by decide +kernel
theorem kb_lt : kitB "list" "tuple" = some false := by decide +kernel
theorem kb_li : kitB "list" "int" = some false := by decide +kernel
theorem kb_tt : kitB "tuple" "tuple" = some true := by decide +kernel
theorem kb_tl : kitB "tuple" "list" = some false := by decide +kernel
theorem kb_nt : kitB "NoneType" "tuple" = some false := by decide +kernel
theorem kb_ni : kitB "NoneType" "int" = some false := by decide +kernel
theorem kb_nl : kitB "NoneType" "list" = some false := by decide +kernel
theorem kb_ns : kitB "NoneType" "str" = some false := by decide +kernel

/-! truth, tests -/
/-- a value's truth -/
def aTru (K : PySem.W.Frag) : V → Hp → (Bool → Hp → Prop) → Prop := fun x H Q => ∃ k, TruV K x H k ∧ Q k H
def cTru (K : PySem.W.Frag) (ta : TE) : TT := fun σ H Q => ta σ H fun x H' => aTru K x H' Q
theorem pt_tru {X : Cx} {e : Expr} {ta : TE} (ha : PE X e ta) (he : ∀ whole, isTrue e X.env whole = (do let v ← whole; standAt e.pos; holding [v] (truthy v)) := by intro _; rfl) : PT X e (cTru X.K ta) := pt_truth ha he
section
variable {R : Bool → Hp → Prop} {c : Bool}
theorem w_truB (k : R c H) : aTru K (.bl c) H R := ⟨c, rfl, k⟩
theorem w_truI (k : R (i != 0) H) : aTru K (.int i) H R := ⟨_, rfl, k⟩
theorem w_truN (k : R false H) : aTru K .non H R := ⟨_, rfl, k⟩
theorem w_truS (hl : a.length ≤ sizeLine) (k : R ((a.length : Int) != 0) H) : aTru K (.str a) H R := ⟨_, ⟨hl, rfl⟩, k⟩
theorem w_truL (hp : H p = some (.lst xs)) (k : R (!xs.isEmpty) H) : aTru K (.ref p) H R := ⟨_, .inl ⟨_, SqL.of hp, rfl⟩, k⟩
theorem w_truT (hp : H p = some (.tup xs)) (k : R (!xs.isEmpty) H) : aTru K (.ref p) H R := ⟨_, .inr (.inl ⟨_, .inl (.inl hp), rfl⟩), k⟩
end
def aB (x : V) (H : Hp) (R : Bool → Hp → Prop) : Prop := ∃ k, x = .bl k ∧ R k H
def cB (t : TE) : TT := fun σ H Q => t σ H fun x H' => aB x H' Q
theorem pt_cmpA {X : Cx} {op : CmpOp} {r : R2} {e1 e2 : Expr} {ta tb : TE} {pos : Pos} (ho : OpR X (compareOp op) r) (ha : PE X e1 ta) (hb : PE X e2 tb) (hm : behindInMarks op e2 = false) : PT X (.Compare e1 [op] [e2] pos) (cB (tOp r ta tb)) := pt_cmpR ho ha hb hm
theorem pt_chainA {X : Cx} {op op' : CmpOp} {r r' : R2} {e1 e2 e3 : Expr} {ta tb tc : TE} {pos : Pos} (ho : OpR X (compareOp op) r) (ho' : OpR X (compareOp op') r') (ha : PE X e1 ta) (hb : PE X e2 tb) (hc : PE X e3 tc) (hm : lastMarks [op, op'] [e2, e3] = false := by with_unfolding_all rfl) :
    PT X (.Compare e1 [op, op'] [e2, e3] pos) (cB (tChain r r' ta tb tc)) := pt_chain ho ho' ha hb hc hm
theorem w_B {c : Bool} {R : Bool → Hp → Prop} (k : R c H) : aB (.bl c) H R := ⟨c, rfl, k⟩
end
/-! ### ifs -/
section
variable {A B : Prop} {p : Prop} [Decidable p]
theorem w_ite (h1 : p → A) (h2 : ¬p → B) : if decide p = true then A else B := by
  by_cases h : p
  · rw [if_pos (by simpa using h)]; exact h1 h
  · rw [if_neg (by simpa using h)]; exact h2 h
theorem w_iteT (h : p) (k : A) : if decide p = true then A else B := by rw [if_pos (by simpa using h)]; exact k
theorem w_iteF (h : ¬p) (k : B) : if decide p = true then A else B := by rw [if_neg (by simpa using h)]; exact k
theorem w_iteN (h1 : ¬p → A) (h2 : p → B) : if (!decide p) = true then A else B := by
  by_cases h : p
  · rw [if_neg (by simpa using h)]; exact h2 h
  · rw [if_pos (by simpa using h)]; exact h1 h
theorem w_iteNT (h : ¬p) (k : A) : if (!decide p) = true then A else B := by rw [if_pos (by simpa using h)]; exact k
theorem w_iteNF (h : p) (k : B) : if (!decide p) = true then A else B := by rw [if_neg (by simpa using h)]; exact k
theorem w_ite1 (k : A) : if true = true then A else B := by rw [if_pos rfl]; exact k
theorem w_ite0 (k : B) : if false = true then A else B := by rw [if_neg Bool.false_ne_true]; exact k
theorem w_iteb {b : Bool} (h1 : b = true → A) (h2 : b = false → B) : if b = true then A else B := by
  cases b
  · rw [if_neg Bool.false_ne_true]; exact h2 rfl
  · rw [if_pos rfl]; exact h1 rfl
theorem w_itebT {b : Bool} (h : b = true) (k : A) : if b = true then A else B := by rw [if_pos h]; exact k
theorem w_itebF {b : Bool} (h : b = false) (k : B) : if b = true then A else B := by rw [h, if_neg Bool.false_ne_true]; exact k
theorem w_itenb {b : Bool} (h1 : b = false → A) (h2 : b = true → B) : if (!b) = true then A else B := by
  cases b
  · rw [if_pos (by decide)]; exact h1 rfl
  · rw [if_neg (by decide)]; exact h2 rfl
theorem w_itenbT {b : Bool} (h : b = false) (k : A) : if (!b) = true then A else B := by rw [h, if_pos (by decide)]; exact k
theorem w_itenbF {b : Bool} (h : b = true) (k : B) : if (!b) = true then A else B := by rw [h, if_neg (by decide)]; exact k
end
/-! ### structure: what a reading says, one step -/
section
variable {σ σ' : St} {H : Hp} {Q : VK} {D : Ends} {ta tb : TE} {t u : TT} {tl tr : TA} {ts us : TS} {g : TG} {gs : TGs} {r : R2} {i : Nat} {v : V} {K : PySem.W.Frag}
theorem s_var (h : σ[i]? = some (some v)) (k : Q v H) : tVar i σ H Q := ⟨v, h, k⟩
theorem s_c (k : Q v H) : tC v σ H Q := k
theorem s_op (k : ta σ H fun x H1 => tb σ H1 fun y H2 => r x y H2 Q) : tOp r ta tb σ H Q := k
theorem s_un {r : V → Hp → VK → Prop} (k : ta σ H fun x H1 => r x H1 Q) : tUn r ta σ H Q := k
theorem s_nil {Q : List V → Hp → Prop} (k : Q [] H) : tNil σ H Q := k
theorem s_cons {Q : List V → Hp → Prop} (k : ta σ H fun x H1 => tl σ H1 fun xs H2 => Q (x :: xs) H2) : tCons ta tl σ H Q := k
theorem s_callS {sp : Sp} {E : St → XK} (k : tl σ H fun vs H1 => sp vs H1 Q (E σ)) : tCallS sp E tl σ H Q := k
theorem s_CB {r : List V → Hp → VK → Prop} (k : tl σ H fun vs H1 => r vs H1 Q) : tCB r tl σ H Q := k
theorem s_BM {T : String} {r : V → List V → Hp → VK → Prop} (k : ta σ H fun x H1 => tyV K T x H1 ∧ tl σ H1 fun xs H2 => r x xs H2 Q) : tBM K T r ta tl σ H Q := k
theorem s_BM0 {T : String} {r : V → List V → Hp → VK → Prop} (k : ta σ H fun x H1 => tyV K T x H1 ∧ r x [] H1 Q) : tBM0 K T r ta σ H Q := k
theorem s_seq (k : ts { D with nx := us D } σ H) : tSeq ts us D σ H := k
theorem s_next (k : D.nx σ H) : tNext D σ H := k
theorem s_asg (k : ta σ H fun x H1 => g x σ H1 D.nx) : tAsg ta g D σ H := k
theorem s_name {Q : St → Hp → Prop} (e : σ.set i (some v) = σ') (k : Q σ' H) : gName i v σ H Q := by
  show Q (σ.set i (some v)) H
  rw [e]; exact k
theorem s_sub {to ti : TE} {t : TSet} {Q : St → Hp → Prop} (k : to σ H fun o H1 => ti σ H1 fun i H2 => t o i v H2 fun H3 => Q σ H3) : gSub to ti t v σ H Q := k
theorem s_ret (k : ta σ H D.rt) : tRet ta D σ H := k
theorem s_retN (k : D.rt .non H) : tRetN D σ H := k
theorem s_drop (k : ta σ H fun _ H1 => D.nx σ H1) : tDrop ta D σ H := k
theorem s_ifS (k : t σ H fun b H1 => if b = true then ts D σ H1 else us D σ H1) : tIfS t ts us D σ H := k
theorem s_if (k : t σ H fun b H1 => if b = true then ta σ H1 Q else tb σ H1 Q) : tIf t ta tb σ H Q := k
theorem s_tru {Q : Bool → Hp → Prop} (k : ta σ H fun x H1 => aTru K x H1 Q) : cTru K ta σ H Q := k
theorem s_B {Q : Bool → Hp → Prop} (k : ta σ H fun x H1 => aB x H1 Q) : cB ta σ H Q := k
theorem s_and {Q : Bool → Hp → Prop} (k : t σ H fun c H1 => if c = true then u σ H1 Q else Q false H1) : tAnd t u σ H Q := k
theorem s_or {Q : Bool → Hp → Prop} (k : t σ H fun c H1 => if c = true then Q true H1 else u σ H1 Q) : tOr t u σ H Q := k
theorem s_not {Q : Bool → Hp → Prop} (k : t σ H fun c H1 => Q (!c) H1) : tNot t σ H Q := k
theorem s_andV (k : ta σ H fun x H1 => aB x H1 fun c H2 => if c = true then tb σ H2 Q else Q (.bl false) H2) : tAndV ta tb σ H Q := k
theorem s_orV (k : ta σ H fun x H1 => aB x H1 fun c H2 => if c = true then Q (.bl true) H2 else tb σ H2 Q) : tOrV ta tb σ H Q := k
theorem s_notV (k : ta σ H fun x H1 => aB x H1 fun c H2 => Q (.bl (!c)) H2) : tNotV ta σ H Q := k
theorem s_lst (k : tl σ H fun xs H1 => xs.length ≤ sizeLine ∧ ∀ p, H1 p = none → Q (.ref p) (upd H1 p (.lst xs))) : tLst tl σ H Q := k
theorem s_tup (k : tl σ H fun xs H1 => xs.length ≤ sizeLine ∧ ∀ p, H1 p = none → Q (.ref p) (upd H1 p (.tup xs))) : tTup tl σ H Q := k
theorem s_chain {r' : R2} {tc : TE} (k : ta σ H fun x H1 => tb σ H1 fun y H2 => r x y H2 fun z H3 => aB z H3 fun c H4 => if c = true then tc σ H4 fun w' H5 => r' y w' H5 Q else Q (.bl false) H4) : tChain r r' ta tb tc σ H Q := by
  unfold tChain
  have hm := k
  exact k
end
/-! ### slices -/
def rSlA (K : PySem.W.Frag) : V → Option Int → Option Int → Hp → VK → Prop := fun x lo hi H Q => rSlL K x lo hi H Q ∨ rSlS x lo hi H Q ∨ rSlT K x lo hi H Q
theorem sl_any {X : Cx} : SlR X (rSlA X.K) := sl_list.or (sl_str.or sl_tup)
theorem not_mem2 {a b : Addr} {l : List Addr} (h : a ≠ b) (h2 : a ∉ l) : a ∉ b :: l := fun z => by
  rcases List.mem_cons.mp z with z | z
  · exact h z
  · exact h2 z
theorem w_new {n : Nat} {B : Prop} (h : n ≤ sizeLine) (k : B) : n ≤ sizeLine ∧ B := ⟨h, k⟩
/-- the part of a list from lo to hi -/
def cut {α : Type} (xs : List α) (lo hi : Option Int) : List α := (xs.drop (HT.sIx xs.length 0 lo)).take (HT.sIx xs.length xs.length hi - HT.sIx xs.length 0 lo)
theorem cutV_map {α : Type} {f : α → V} {us : List α} {lo hi : Option Int} : cutV (us.map f) lo hi = (cut us lo hi).map f := by
  unfold cutV cut
  rw [List.length_map, List.map_take, List.map_drop]
section
variable {σ : St} {H : Hp} {Q : VK} {te : TE} {K : PySem.W.Frag} {p : Addr} {lo hi : Option Int} {xs : List V} {z : Str}
theorem s_sl {r : V → Option Int → Option Int → Hp → VK → Prop} {tl th : TO} (k : te σ H fun x H1 => tl σ H1 fun l H2 => th σ H2 fun u H3 => r x l u H3 Q) : tSl r te tl th σ H Q := k
theorem s_nopart {R : Option Int → Hp → Prop} (k : R none H) : tNoPart σ H R := k
def aPart (R : Option Int → Hp → Prop) : VK := fun x H1 => ∃ i, x = .int i ∧ R (some i) H1
theorem s_part {R : Option Int → Hp → Prop} (k : te σ H (aPart R)) : tPart te σ H R := k
theorem w_part {i : Int} {R : Option Int → Hp → Prop} (k : R (some i) H) : aPart R (.int i) H := ⟨i, rfl, k⟩
theorem w_slM {α : Type} {f : α → V} {us : List α} (hp : H p = some (.lst (us.map f))) (k : ∀ r, H r = none → Q (.ref r) (upd H r (.lst ((cut us lo hi).map f)))) : rSlA K (.ref p) lo hi H Q :=
  .inl ⟨p, _, rfl, SqL.of hp, fun r hr => by rw [cutV_map]; exact k r hr⟩
theorem w_slL (hp : H p = some (.lst xs)) (k : ∀ r, H r = none → Q (.ref r) (upd H r (.lst (cutV xs lo hi)))) : rSlA K (.ref p) lo hi H Q :=
  .inl ⟨p, _, rfl, SqL.of hp, k⟩
theorem w_slQ {α : Type} {f : α → V} {us : List α} (hp : SqL K H p (us.map f)) (k : ∀ r, H r = none → Q (.ref r) (upd H r (.lst ((cut us lo hi).map f)))) : rSlA K (.ref p) lo hi H Q :=
  .inl ⟨p, _, rfl, hp, fun r hr => by rw [cutV_map]; exact k r hr⟩
theorem w_slS (hl : z.length ≤ sizeLine) (k : Q (.str (cutS z lo hi)) H) : rSlA K (.str z) lo hi H Q := .inr (.inl ⟨z, rfl, hl, k⟩)
end
end Lk
namespace Lk
open PySem PySem.Spec PyProof.Rows L2

/-! ### for -/
/-- what is asked once the iterator J stands -/
def aLoop (J : It) (g : TG) (tb : TS) (D : Ends) (σ : St) (H1 : Hp) : Prop := ∃ W : Nat → Nat → St → Hp → Prop, (∃ m, W 0 m σ H1) ∧ ∀ i m σ H, W i m σ H →
  (J.stop i H ∧ D.nx σ H) ∨ (J.go i H ∧ ∃ N : St → Hp → Prop, (∀ σ' H', N σ' H' → ∃ m', m' < m ∧ W (i + 1) m' σ' H') ∧ ∀ x H', J.yld i H x H' → g x σ H' fun σ2 H2 => tb { D with nx := N, ct := N, bk := D.nx } σ2 H2)
def aRng1 (g : TG) (tb : TS) (D : Ends) (σ : St) (vs : List V) (H1 : Hp) : Prop := ∃ j : Int, vs = [.int j] ∧ -(2 ^ 62) ≤ j ∧ j < 2 ^ 62 ∧ aLoop (Itr 0 j.toNat) g tb D σ H1
def aRng2 (g : TG) (tb : TS) (D : Ends) (σ : St) (vs : List V) (H1 : Hp) : Prop := ∃ i j : Int, vs = [.int i, .int j] ∧ (-(2 ^ 62) ≤ i ∧ i < 2 ^ 62 ∧ -(2 ^ 62) ≤ j ∧ j < 2 ^ 62) ∧ aLoop (Itr i (j - i).toNat) g tb D σ H1
def aFList (K : PySem.W.Frag) (g : TG) (tb : TS) (D : Ends) (σ : St) (x : V) (H1 : Hp) : Prop := ∃ a, x = .ref a ∧ (∃ xs, SqL K H1 a xs) ∧ aLoop (Itl K a) g tb D σ H1
def aFEnum (K : PySem.W.Frag) (g : TG) (tb : TS) (D : Ends) (σ : St) (vs : List V) (H1 : Hp) : Prop := ∃ a xs, vs = [.ref a] ∧ SqL K H1 a xs ∧ aLoop (Ite K a) g tb D σ H1
section
variable {σ : St} {H : Hp} {D : Ends} {g : TG} {tb : TS} {ta : TA} {te : TE} {K : PySem.W.Frag}
theorem s_forR1 (k : ta σ H fun vs H1 => aRng1 g tb D σ vs H1) : tFor (iRng1 ta) g tb D σ H := k
theorem s_forR2 (k : ta σ H fun vs H1 => aRng2 g tb D σ vs H1) : tFor (iRng2 ta) g tb D σ H := k
theorem s_forL (k : te σ H fun x H1 => aFList K g tb D σ x H1) : tFor (iList K te) g tb D σ H := k
theorem s_forE (k : ta σ H fun vs H1 => aFEnum K g tb D σ vs H1) : tFor (iEnum K ta) g tb D σ H := k
variable {nx bk ct : St → Hp → Prop} {rt : VK} {j j' : Nat}
theorem w_rng1 {n : Int} (hn : n < 2 ^ 62 := by omega) (hn' : -(2 ^ 62) ≤ n := by omega) (Pv : Nat → St → Hp → Prop) (h0 : Pv 0 σ H)
    (hs : ∀ (i : Nat) σ' H', (i : Int) < n → Pv i σ' H' → tb ⟨Pv (i + 1), rt, nx, Pv (i + 1)⟩ (σ'.set j (some (.int (i : Int)))) H') (hd : ∀ σ' H', Pv n.toNat σ' H' → nx σ' H') : aRng1 (gName j) tb ⟨nx, rt, bk, ct⟩ σ [.int n] H :=
  ⟨n, rfl, hn', hn, for_range (lo := 0) (n := n.toNat) Pv h0 (fun i σ' H' hi p => by
    show tb ⟨Pv (i + 1), rt, nx, Pv (i + 1)⟩ (σ'.set j (some (.int ((0 : Int) + (i : Int))))) H'
    rw [Int.zero_add]
    exact hs i σ' H' (by omega) p) hd⟩
theorem w_rng2 {lo n : Int} (hl : -(2 ^ 62) ≤ lo := by omega) (hl' : lo < 2 ^ 62 := by omega) (hn : n < 2 ^ 62 := by omega) (hn' : -(2 ^ 62) ≤ n := by omega) (Pv : Nat → St → Hp → Prop) (h0 : Pv 0 σ H)
    (hs : ∀ (i : Nat) σ' H', lo + (i : Int) < n → Pv i σ' H' → tb ⟨Pv (i + 1), rt, nx, Pv (i + 1)⟩ (σ'.set j (some (.int (lo + (i : Int))))) H') (hd : ∀ σ' H', Pv (n - lo).toNat σ' H' → nx σ' H') : aRng2 (gName j) tb ⟨nx, rt, bk, ct⟩ σ [.int lo, .int n] H :=
  ⟨lo, n, rfl, ⟨hl, hl', hn', hn⟩, for_range (lo := lo) (n := (n - lo).toNat) Pv h0 (fun i σ' H' hi p => hs i σ' H' (by omega) p) hd⟩
/-- over a list that stands still; the item is f of us's -/
theorem w_forM {α : Type} {f : α → V} {us : List α} {p : Addr} (hp : H p = some (.lst (us.map f))) (Pv : Nat → St → Hp → Prop) (h0 : Pv 0 σ H) (hl : ∀ i σ' H', i ≤ us.length → Pv i σ' H' → H' p = some (.lst (us.map f)))
    (hs : ∀ (i : Nat) (u : α) σ' H', us[i]? = some u → Pv i σ' H' → g (f u) σ' H' fun σ2 H2 => tb ⟨Pv (i + 1), rt, nx, Pv (i + 1)⟩ σ2 H2) (hd : ∀ σ' H', Pv us.length σ' H' → nx σ' H') : aFList K g tb ⟨nx, rt, bk, ct⟩ σ (.ref p) H :=
  ⟨p, rfl, ⟨_, SqL.of hp⟩, for_list (K := K) (a := p) (xs := us.map f) Pv h0 (fun i σ' H' hi q => SqL.of (hl i σ' H' (by simpa using hi) q)) (fun i x σ' H' hx q => by
    rw [List.getElem?_map] at hx
    cases e : us[i]? with
    | none => rw [e] at hx; cases hx
    | some u =>
      rw [e] at hx
      cases hx
      exact hs i u σ' H' e q) (fun σ' H' q => hd σ' H' (by simpa using q))⟩
/-- a raw list -/
theorem w_forL {xs : List V} {p : Addr} (hp : H p = some (.lst xs)) (Pv : Nat → St → Hp → Prop) (h0 : Pv 0 σ H) (hl : ∀ i σ' H', i ≤ xs.length → Pv i σ' H' → H' p = some (.lst xs))
    (hs : ∀ (i : Nat) (u : V) σ' H', xs[i]? = some u → Pv i σ' H' → g u σ' H' fun σ2 H2 => tb ⟨Pv (i + 1), rt, nx, Pv (i + 1)⟩ σ2 H2) (hd : ∀ σ' H', Pv xs.length σ' H' → nx σ' H') : aFList K g tb ⟨nx, rt, bk, ct⟩ σ (.ref p) H :=
  ⟨p, rfl, ⟨_, SqL.of hp⟩, for_list (K := K) (a := p) (xs := xs) Pv h0 (fun i σ' H' hi q => SqL.of (hl i σ' H' hi q)) hs hd⟩
theorem for_enum {a : Addr} {xs : List V} (Pv : Nat → St → Hp → Prop) (h0 : Pv 0 σ H) (hl : ∀ i σ H, i ≤ xs.length → Pv i σ H → SqL K H a xs)
    (hs : ∀ i x T σ H, xs[i]? = some x → Pv i σ H → H T = none → g (.ref T) σ (upd H T (.tup [.int (i : Nat), x])) fun σ2 H2 => tb { D with nx := Pv (i + 1), ct := Pv (i + 1), bk := D.nx } σ2 H2) (hd : ∀ σ H, Pv xs.length σ H → D.nx σ H) : aLoop (Ite K a) g tb D σ H := by
  refine ⟨fun i m σ H => m = xs.length - i ∧ i ≤ xs.length ∧ Pv i σ H, ⟨xs.length, by simp, Nat.zero_le _, h0⟩, ?_⟩
  rintro i m σ H ⟨rfl, hi, p⟩
  have q := hl i σ H hi p
  by_cases hlt : i < xs.length
  · refine .inr ⟨⟨xs, xs[i], q, by simp [hlt]⟩, Pv (i + 1), fun σ' H' p' => ⟨xs.length - (i + 1), by omega, rfl, hlt, p'⟩, fun x H' y => ?_⟩
    obtain ⟨T, z, e1, e2, e3, y⟩ := y
    subst e1 e3
    exact hs i z T σ _ (y xs q) p e2
  · have e : i = xs.length := by omega
    subst e
    exact .inl ⟨⟨xs, q, Nat.le_refl _⟩, hd σ H p⟩
/-- for i, x in enumerate(xs), i in slot j, x in slot j' -/
theorem w_enumM {α : Type} {f : α → V} {us : List α} {p : Addr} (hp : H p = some (.lst (us.map f))) (Pv : Nat → St → Hp → Prop) (h0 : Pv 0 σ H) (hl : ∀ i σ' H', i ≤ us.length → Pv i σ' H' → H' p = some (.lst (us.map f)))
    (hs : ∀ (i : Nat) (u : α) (T : Addr) σ' H', us[i]? = some u → Pv i σ' H' → H' T = none → tb ⟨Pv (i + 1), rt, nx, Pv (i + 1)⟩ ((σ'.set j (some (.int (i : Int)))).set j' (some (f u))) (upd H' T (.tup [.int (i : Int), f u]))) (hd : ∀ σ' H', Pv us.length σ' H' → nx σ' H') :
    aFEnum K (gTup K 2 (gCons (gName j) (gCons (gName j') gNil))) tb ⟨nx, rt, bk, ct⟩ σ [.ref p] H :=
  ⟨p, _, rfl, SqL.of hp, for_enum (K := K) (a := p) (xs := us.map f) Pv h0 (fun i σ' H' hi q => SqL.of (hl i σ' H' (by simpa using hi) q)) (fun i x T σ' H' hx q hT => by
    rw [List.getElem?_map] at hx
    cases e : us[i]? with
    | none => rw [e] at hx; cases hx
    | some u =>
      rw [e] at hx
      cases hx
      exact ⟨T, _, rfl, .inl (.inl upd_same), rfl, _, _, rfl, _, _, rfl, rfl, hs i u T σ' H' e q hT⟩) (fun σ' H' q => hd σ' H' (by simpa using q))⟩

/-- the items of any kind, with any target for the item -/
theorem w_enumG {g : TG} {xs : List V} {p : Addr} (hp : H p = some (.lst xs)) (Pv : Nat → St → Hp → Prop) (h0 : Pv 0 σ H) (hl : ∀ i σ' H', i ≤ xs.length → Pv i σ' H' → H' p = some (.lst xs))
    (hs : ∀ (i : Nat) (u : V) (T : Addr) σ' H', xs[i]? = some u → Pv i σ' H' → H' T = none → g u (σ'.set j (some (.int (i : Int)))) (upd H' T (.tup [.int (i : Int), u])) fun σ2 H2 => gNil [] σ2 H2 fun σ3 H3 => tb ⟨Pv (i + 1), rt, nx, Pv (i + 1)⟩ σ3 H3) (hd : ∀ σ' H', Pv xs.length σ' H' → nx σ' H') :
    aFEnum K (gTup K 2 (gCons (gName j) (gCons g gNil))) tb ⟨nx, rt, bk, ct⟩ σ [.ref p] H :=
  ⟨p, _, rfl, SqL.of hp, for_enum (K := K) (a := p) (xs := xs) Pv h0 (fun i σ' H' hi q => SqL.of (hl i σ' H' hi q)) (fun i x T σ' H' hx q hT => by
    refine ⟨T, _, rfl, .inl (.inl upd_same), rfl, _, _, rfl, _, _, rfl, ?_⟩
    exact hs i x T σ' H' hx q hT) (fun σ' H' q => hd σ' H' q)⟩

theorem w_gTup {Q : St → Hp → Prop} {a : Addr} {xs : List V} {m : Nat} {t : TGs} (hp : H a = some (.tup xs)) (hl : xs.length = m) (k : t xs σ H Q) : gTup K m t (.ref a) σ H Q := ⟨a, xs, rfl, .inl (.inl hp), hl, k⟩
theorem w_gCons {Q : St → Hp → Prop} {v : V} {r : List V} {t : TG} {u : TGs} (k : t v σ H fun σ' H' => u r σ' H' Q) : gCons t u (v :: r) σ H Q := ⟨v, r, rfl, k⟩
theorem w_gNil {Q : St → Hp → Prop} (k : Q σ H) : gNil [] σ H Q := ⟨rfl, k⟩
/-! ### a cut: what follows is shown once -/
def tCut (t u : TS) : TS := fun D σ H => ∃ Mid : St → Hp → Prop, t { D with nx := Mid } σ H ∧ ∀ σ' H', Mid σ' H' → u D σ' H'
theorem pss_cut {X : Cx} {st : Stmt} {rest : List Stmt} {t u : TS} (h1 : PS X st t) (h2 : PSs X rest u) : PSs X (st :: rest) (tCut t u) := by
  refine ⟨fun pins s σ H D I h => ?_⟩
  obtain ⟨Mid, ht, hu⟩ := h
  refine wpAny_execs_cons (thn (h1.run pins s σ H { D with nx := Mid } I ht) fun f s1 q => ?_)
  cases f with
  | next =>
    obtain ⟨σ', H', I', q⟩ := q
    exact h2.run pins s1 σ' H' D I' (hu σ' H' q)
  | ret v => exact q
  | brk => exact q
  | cont => exact q
theorem s_cut {σ : St} {H : Hp} {ts us : TS} {nx bk ct : St → Hp → Prop} {rt : VK} (Mid : St → Hp → Prop) (h1 : ts ⟨Mid, rt, bk, ct⟩ σ H) (h2 : ∀ σ' H', Mid σ' H' → us ⟨nx, rt, bk, ct⟩ σ' H') : tCut ts us ⟨nx, rt, bk, ct⟩ σ H := ⟨Mid, h1, h2⟩
/-! ### while -/
/-- the turn, once the test has come out true -/
def aTurn (Pv : St → Hp → Prop) (μ : St → Hp → Nat) (m : Nat) (tb : TS) (rt : VK) (nx : St → Hp → Prop) (σ : St) (H : Hp) : Prop :=
  ∃ N : St → Hp → Prop, (∀ σ' H', N σ' H' → ∃ m', m' < m ∧ (Pv σ' H' ∧ μ σ' H' = m')) ∧ tb ⟨N, rt, nx, N⟩ σ H
theorem w_turn {Pv : St → Hp → Prop} {μ : St → Hp → Nat} {m : Nat} (k : tb ⟨fun σ' H' => Pv σ' H' ∧ μ σ' H' < m, rt, nx, fun σ' H' => Pv σ' H' ∧ μ σ' H' < m⟩ σ H) : aTurn Pv μ m tb rt nx σ H :=
  ⟨_, fun σ' H' q => ⟨_, q.2, q.1, rfl⟩, k⟩
theorem w_while {c : TT} (Pv : St → Hp → Prop) (μ : St → Hp → Nat) (h0 : Pv σ H) (hs : ∀ σ' H', Pv σ' H' → c σ' H' fun b H1 => if b = true then aTurn Pv μ (μ σ' H') tb rt nx σ' H1 else nx σ' H1) : tWhile c tb ⟨nx, rt, bk, ct⟩ σ H :=
  ⟨fun m σ H => Pv σ H ∧ μ σ H = m, ⟨_, h0, rfl⟩, fun m σ' H' hw => by
    obtain ⟨p, rfl⟩ := hw
    exact hs σ' H' p⟩
end

/-! ### list comprehensions -/
/-- behind a turn: the list at D -/
def cNx (H0 : Hp) (D : Addr) (acc : List V) : Hp → Prop := fun H => Kp [] H0 H ∧ H D = some (.lst acc)
/-- the kept item y goes to the list at D -/
def aKeep (H0 : Hp) (D : Addr) (acc' : List V) : VK := fun y H4 => ∃ acc, H4 D = some (.lst acc) ∧ acc.length < sizeLine ∧ cNx H0 D acc' (upd H4 D (.lst (acc ++ [y])))
section
variable {σ : St} {H : Hp} {g : TG} {tt : TT} {te : TE} {tl : TE} {ta : TA} {K : PySem.W.Frag} {vs : List Nat} {Q : VK}
def aComp (J : It) (g : TG) (tt : TT) (te : TE) (vs : List Nat) (σ : St) (Q : VK) (H1 : Hp) : Prop := ∀ D, H1 D = none → ∃ W : Nat → Nat → Hp → Prop, (∃ m, W 0 m (upd H1 D (.lst []))) ∧ ∀ i m H, W i m H →
  (J.stop i H ∧ Q (.ref D) H) ∨ (J.go i H ∧ ∃ Nx : Hp → Prop, (∀ H', Nx H' → ∃ m', m' < m ∧ W (i + 1) m' H') ∧ ∀ x H', J.yld i H x H' → g x (wipe σ vs) H' fun σ2 H2 => wipe σ2 vs = wipe σ vs ∧ tt σ2 H2 fun b H3 =>
    if b = true then te σ2 H3 fun y H4 => ∃ acc, H4 D = some (.lst acc) ∧ acc.length < sizeLine ∧ Nx (upd H4 D (.lst (acc ++ [y]))) else Nx H3)
def aCList (K : PySem.W.Frag) (g : TG) (tt : TT) (te : TE) (vs : List Nat) (σ : St) (Q : VK) (x : V) (H1 : Hp) : Prop := ∃ a, x = .ref a ∧ (∃ xs, SqL K H1 a xs) ∧ aComp (Itl K a) g tt te vs σ Q H1
def aCR1 (g : TG) (tt : TT) (te : TE) (vs : List Nat) (σ : St) (Q : VK) (us : List V) (H1 : Hp) : Prop := ∃ j : Int, us = [.int j] ∧ -(2 ^ 62) ≤ j ∧ j < 2 ^ 62 ∧ aComp (Itr 0 j.toNat) g tt te vs σ Q H1
def aCR2 (g : TG) (tt : TT) (te : TE) (vs : List Nat) (σ : St) (Q : VK) (us : List V) (H1 : Hp) : Prop := ∃ i j : Int, us = [.int i, .int j] ∧ (-(2 ^ 62) ≤ i ∧ i < 2 ^ 62 ∧ -(2 ^ 62) ≤ j ∧ j < 2 ^ 62) ∧ aComp (Itr i (j - i).toNat) g tt te vs σ Q H1
def aCEnum (K : PySem.W.Frag) (g : TG) (tt : TT) (te : TE) (vs : List Nat) (σ : St) (Q : VK) (us : List V) (H1 : Hp) : Prop := ∃ a xs, us = [.ref a] ∧ SqL K H1 a xs ∧ aComp (Ite K a) g tt te vs σ Q H1
theorem s_lcL (k : tl σ H fun x H1 => aCList K g tt te vs σ Q x H1) : tLc (iList K tl) g tt te vs σ H Q := k
theorem s_lcR1 (k : ta σ H fun us H1 => aCR1 g tt te vs σ Q us H1) : tLc (iRng1 ta) g tt te vs σ H Q := k
theorem s_lcR2 (k : ta σ H fun us H1 => aCR2 g tt te vs σ Q us H1) : tLc (iRng2 ta) g tt te vs σ H Q := k
theorem s_lcE (k : ta σ H fun us H1 => aCEnum K g tt te vs σ Q us H1) : tLc (iEnum K ta) g tt te vs σ H Q := k
theorem fm_snoc {α β : Type} (ψ : α → Option β) {us : List α} {i : Nat} {u : α} (h : us[i]? = some u) : (us.take (i + 1)).filterMap ψ = (us.take i).filterMap ψ ++ (ψ u).toList := by
  have e : us.take (i + 1) = us.take i ++ [u] := by
    rw [List.take_succ, h]; rfl
  rw [e, List.filterMap_append]
  cases q : ψ u <;> simp [List.filterMap_cons, q]
theorem fm_len {α β : Type} (ψ : α → Option β) (us : List α) : (us.filterMap ψ).length ≤ us.length := List.length_filterMap_le _ _
variable {α β : Type} {f : α → V} {f' : β → V}
theorem w_lcM (ψ : α → Option β) {us : List α} {p : Addr} (hp : H p = some (.lst (us.map f))) (hz : us.length < sizeLine)
    (hs : ∀ (D : Addr) (i : Nat) (u : α) (acc : List V) (H' : Hp), H D = none → us[i]? = some u → Kp [] H H' → H' D = some (.lst acc) → acc.length < sizeLine → g (f u) (wipe σ vs) H' fun σ2 H2 => wipe σ2 vs = wipe σ vs ∧ tt σ2 H2 fun b H3 =>
      if b = true then te σ2 H3 (aKeep H D (acc ++ (ψ u).toList.map f')) else cNx H D (acc ++ (ψ u).toList.map f') H3)
    (k : ∀ D H', H D = none → Kp [] H H' → H' D = some (.lst ((us.filterMap ψ).map f')) → Q (.ref D) H') : aCList K g tt te vs σ Q (.ref p) H :=
  ⟨p, rfl, ⟨_, SqL.of hp⟩, fun D hD => lc_list (K := K) (a := p) (xs := us.map f) (fun i => cNx H D (((us.take i).filterMap ψ).map f')) ⟨Kp.refl.new hD, upd_same⟩
    (fun i H' hi q => SqL.of (q.1.at0 hp)) (fun i x H' hx q => by
      rw [List.getElem?_map] at hx
      cases e : us[i]? with
      | none => rw [e] at hx; cases hx
      | some u =>
        rw [e] at hx
        cases hx
        have hl : i < us.length := (List.getElem?_eq_some_iff.mp e).1
        have hlen : (((us.take i).filterMap ψ).map f').length < sizeLine := by
          have := fm_len ψ (us.take i)
          rw [List.length_take] at this
          rw [List.length_map]
          omega
        have h := hs D i u _ H' hD e q.1 q.2 hlen
        have e2 : ((us.take (i + 1)).filterMap ψ).map f' = ((us.take i).filterMap ψ).map f' ++ (ψ u).toList.map f' := by rw [fm_snoc ψ e, List.map_append]
        rw [e2]
        exact h) (fun H' q => k D H' hD q.1 (by
          have := q.2
          rw [List.length_map, List.take_length] at this
          exact this))⟩
theorem w_lcR (ψ : Nat → Option β) {lo n : Int} (hl1 : -(2 ^ 62) ≤ lo) (hl2 : lo < 2 ^ 62) (hn1 : -(2 ^ 62) ≤ n) (hn2 : n < 2 ^ 62) (hz : (n - lo).toNat < sizeLine)
    (hs : ∀ (D : Addr) (i : Nat) (acc : List V) (H' : Hp), H D = none → lo + (i : Int) < n → Kp [] H H' → H' D = some (.lst acc) → acc.length < sizeLine → g (.int (lo + (i : Int))) (wipe σ vs) H' fun σ2 H2 => wipe σ2 vs = wipe σ vs ∧ tt σ2 H2 fun b H3 =>
      if b = true then te σ2 H3 (aKeep H D (acc ++ (ψ i).toList.map f')) else cNx H D (acc ++ (ψ i).toList.map f') H3)
    (k : ∀ D H', H D = none → Kp [] H H' → H' D = some (.lst (((List.range (n - lo).toNat).filterMap ψ).map f')) → Q (.ref D) H') : aComp (Itr lo (n - lo).toNat) g tt te vs σ Q H :=
  fun D hD => lc_range (lo := lo) (n := (n - lo).toNat) (fun i => cNx H D (((List.range i).filterMap ψ).map f')) ⟨Kp.refl.new hD, upd_same⟩ (fun i H' hi q => by
      have hlen : (((List.range i).filterMap ψ).map f').length < sizeLine := by
        have := fm_len ψ (List.range i)
        rw [List.length_range] at this
        rw [List.length_map]
        omega
      have h := hs D i _ H' hD (by omega) q.1 q.2 hlen
      have e2 : ((List.range (i + 1)).filterMap ψ).map f' = ((List.range i).filterMap ψ).map f' ++ (ψ i).toList.map f' := by
        rw [List.range_succ, List.filterMap_append, List.map_append]
        cases q : ψ i <;> simp [List.filterMap_cons, q]
      rw [e2]
      exact h) (fun H' q => k D H' hD q.1 q.2)
theorem w_lcR1 (ψ : Nat → Option β) {n : Int} (hn1 : -(2 ^ 62) ≤ n) (hn2 : n < 2 ^ 62) (hz : n.toNat < sizeLine)
    (hs : ∀ (D : Addr) (i : Nat) (acc : List V) (H' : Hp), H D = none → (i : Int) < n → Kp [] H H' → H' D = some (.lst acc) → acc.length < sizeLine → g (.int (i : Int)) (wipe σ vs) H' fun σ2 H2 => wipe σ2 vs = wipe σ vs ∧ tt σ2 H2 fun b H3 =>
      if b = true then te σ2 H3 (aKeep H D (acc ++ (ψ i).toList.map f')) else cNx H D (acc ++ (ψ i).toList.map f') H3)
    (k : ∀ D H', H D = none → Kp [] H H' → H' D = some (.lst (((List.range n.toNat).filterMap ψ).map f')) → Q (.ref D) H') : aCR1 g tt te vs σ Q [.int n] H := by
  have q := w_lcR (H := H) (g := g) (tt := tt) (te := te) (σ := σ) (vs := vs) (Q := Q) (f' := f') ψ (lo := 0) (n := n) (by omega) (by omega) hn1 hn2 (by simpa using hz) (fun D i acc H' h1 h2 h3 h4 h5 => by
    rw [Int.zero_add]
    exact hs D i acc H' h1 (by omega) h3 h4 h5) (by simpa using k)
  exact ⟨n, rfl, hn1, hn2, by simpa using q⟩
theorem w_lcR2 (ψ : Nat → Option β) {lo n : Int} (hl1 : -(2 ^ 62) ≤ lo) (hl2 : lo < 2 ^ 62) (hn1 : -(2 ^ 62) ≤ n) (hn2 : n < 2 ^ 62) (hz : (n - lo).toNat < sizeLine)
    (hs : ∀ (D : Addr) (i : Nat) (acc : List V) (H' : Hp), H D = none → lo + (i : Int) < n → Kp [] H H' → H' D = some (.lst acc) → acc.length < sizeLine → g (.int (lo + (i : Int))) (wipe σ vs) H' fun σ2 H2 => wipe σ2 vs = wipe σ vs ∧ tt σ2 H2 fun b H3 =>
      if b = true then te σ2 H3 (aKeep H D (acc ++ (ψ i).toList.map f')) else cNx H D (acc ++ (ψ i).toList.map f') H3)
    (k : ∀ D H', H D = none → Kp [] H H' → H' D = some (.lst (((List.range (n - lo).toNat).filterMap ψ).map f')) → Q (.ref D) H') : aCR2 g tt te vs σ Q [.int lo, .int n] H :=
  ⟨lo, n, rfl, ⟨hl1, hl2, hn1, hn2⟩, w_lcR ψ hl1 hl2 hn1 hn2 hz hs k⟩
/-- the item is kept -/
theorem w_keep {D : Addr} {acc : List V} {o : Option β} {b : β} {H4 : Hp} (hk : Kp [] H H4) (hD : H4 D = some (.lst acc)) (hl : acc.length < sizeLine) (hn : H D = none) (e : o = some b) : aKeep H D (acc ++ o.toList.map f') (f' b) H4 := by
  subst e
  exact ⟨acc, hD, hl, hk.own hn, upd_same⟩
theorem w_drop {D : Addr} {acc : List V} {o : Option β} {H4 : Hp} (hk : Kp [] H H4) (hD : H4 D = some (.lst acc)) (e : o = none) : cNx H D (acc ++ o.toList.map f') H4 := by
  subst e
  exact ⟨hk, by simpa using hD⟩
/-- behind a turn of a comprehension whose turns change other things, too -/
def gNx (ms : List Addr) (H0 : Hp) (D : Addr) (J : Nat → List V → Hp → Prop) (i : Nat) (H : Hp) : Prop := ∃ acc : List V, acc.length ≤ i ∧ Kp ms H0 H ∧ H D = some (.lst acc) ∧ J i acc H
def gKeep (ms : List Addr) (H0 : Hp) (D : Addr) (J : Nat → List V → Hp → Prop) (i : Nat) : VK := fun y H4 => ∃ acc, H4 D = some (.lst acc) ∧ acc.length < sizeLine ∧ gNx ms H0 D J i (upd H4 D (.lst (acc ++ [y])))
theorem w_lcRG {lo n : Int} (ms : List Addr) (J : Addr → Nat → List V → Hp → Prop)
    (h0 : ∀ D, H D = none → J D 0 [] (upd H D (.lst [])))
    (hs : ∀ (D : Addr) (i : Nat) (acc : List V) (H' : Hp), H D = none → lo + (i : Int) < n → acc.length ≤ i → Kp ms H H' → H' D = some (.lst acc) → J D i acc H' → g (.int (lo + (i : Int))) (wipe σ vs) H' fun σ2 H2 => wipe σ2 vs = wipe σ vs ∧ tt σ2 H2 fun b H3 =>
      if b = true then te σ2 H3 (gKeep ms H D (J D) (i + 1)) else gNx ms H D (J D) (i + 1) H3)
    (k : ∀ D acc H', H D = none → acc.length ≤ (n - lo).toNat → Kp ms H H' → H' D = some (.lst acc) → J D (n - lo).toNat acc H' → Q (.ref D) H') : aComp (Itr lo (n - lo).toNat) g tt te vs σ Q H :=
  fun D hD => lc_range (lo := lo) (n := (n - lo).toNat) (fun i => gNx ms H D (J D) i) ⟨[], Nat.zero_le _, Kp.refl.new hD, upd_same, h0 D hD⟩ (fun i H' hi q => by
      obtain ⟨acc, q1, q2, q3, q4⟩ := q
      exact hs D i acc H' hD (by omega) q1 q2 q3 q4) (fun H' q => by
      obtain ⟨acc, q1, q2, q3, q4⟩ := q
      exact k D acc H' hD q1 q2 q3 q4)
theorem w_lcRG2 {lo n : Int} (ms : List Addr) (J : Addr → Nat → List V → Hp → Prop) (hl1 : -(2 ^ 62) ≤ lo) (hl2 : lo < 2 ^ 62) (hn1 : -(2 ^ 62) ≤ n) (hn2 : n < 2 ^ 62)
    (h0 : ∀ D, H D = none → J D 0 [] (upd H D (.lst [])))
    (hs : ∀ (D : Addr) (i : Nat) (acc : List V) (H' : Hp), H D = none → lo + (i : Int) < n → acc.length ≤ i → Kp ms H H' → H' D = some (.lst acc) → J D i acc H' → g (.int (lo + (i : Int))) (wipe σ vs) H' fun σ2 H2 => wipe σ2 vs = wipe σ vs ∧ tt σ2 H2 fun b H3 =>
      if b = true then te σ2 H3 (gKeep ms H D (J D) (i + 1)) else gNx ms H D (J D) (i + 1) H3)
    (k : ∀ D acc H', H D = none → acc.length ≤ (n - lo).toNat → Kp ms H H' → H' D = some (.lst acc) → J D (n - lo).toNat acc H' → Q (.ref D) H') : aCR2 g tt te vs σ Q [.int lo, .int n] H :=
  ⟨lo, n, rfl, ⟨hl1, hl2, hn1, hn2⟩, w_lcRG ms J h0 hs k⟩
theorem w_lcRG1 {n : Int} (ms : List Addr) (J : Addr → Nat → List V → Hp → Prop) (hn1 : -(2 ^ 62) ≤ n) (hn2 : n < 2 ^ 62)
    (h0 : ∀ D, H D = none → J D 0 [] (upd H D (.lst [])))
    (hs : ∀ (D : Addr) (i : Nat) (acc : List V) (H' : Hp), H D = none → (i : Int) < n → acc.length ≤ i → Kp ms H H' → H' D = some (.lst acc) → J D i acc H' → g (.int (i : Int)) (wipe σ vs) H' fun σ2 H2 => wipe σ2 vs = wipe σ vs ∧ tt σ2 H2 fun b H3 =>
      if b = true then te σ2 H3 (gKeep ms H D (J D) (i + 1)) else gNx ms H D (J D) (i + 1) H3)
    (k : ∀ D acc H', H D = none → acc.length ≤ n.toNat → Kp ms H H' → H' D = some (.lst acc) → J D n.toNat acc H' → Q (.ref D) H') : aCR1 g tt te vs σ Q [.int n] H := by
  have q := w_lcRG (H := H) (g := g) (tt := tt) (te := te) (σ := σ) (vs := vs) (Q := Q) (lo := 0) (n := n) ms J h0 (fun D i acc H' h1 h2 h3 h4 h5 h6 => by
    rw [Int.zero_add]
    exact hs D i acc H' h1 (by omega) h3 h4 h5 h6) (by simpa using k)
  exact ⟨n, rfl, hn1, hn2, by simpa using q⟩
theorem w_keepG {ms : List Addr} {J : Nat → List V → Hp → Prop} {D : Addr} {acc : List V} {i : Nat} {y : V} {H4 : Hp} (hk : Kp ms H H4) (hD : H4 D = some (.lst acc)) (hl : acc.length ≤ i) (hz : i < sizeLine) (hn : H D = none) (j : J (i + 1) (acc ++ [y]) (upd H4 D (.lst (acc ++ [y])))) : gKeep ms H D J (i + 1) y H4 :=
  ⟨acc, hD, by omega, acc ++ [y], by rw [List.length_append]; simpa using hl, hk.own hn, upd_same, j⟩
theorem w_dropG {ms : List Addr} {J : Nat → List V → Hp → Prop} {D : Addr} {acc : List V} {i : Nat} {H4 : Hp} (hk : Kp ms H H4) (hD : H4 D = some (.lst acc)) (hl : acc.length ≤ i) (j : J (i + 1) acc H4) : gNx ms H D J (i + 1) H4 :=
  ⟨acc, by omega, hk, hD, j⟩
theorem s_yes {Q : Bool → Hp → Prop} (k : Q true H) : tYes σ H Q := k
theorem fm_some {h : α → β} {us : List α} : us.filterMap (fun u => some (h u)) = us.map h := by
  rw [← List.filterMap_eq_map]; rfl
end

/-! ### try, except -/
section
variable {K : PySem.W.Frag} {c cls : Value} {d : Option Addr} {i : Nat} {ts : Addr → Value → Option Addr → TS} {Wout : WX} {nx bk ct : St → Hp → Prop} {rt : VK} {σ : St} {H : Hp}
theorem w_asT (e : PySem.W.exmOne K cls c = some true) (k : ∀ a, H a = none → ts a cls d ⟨fun σ' H' => nx (σ'.set i none) H', rt, fun σ' H' => bk (σ'.set i none) H', fun σ' H' => ct (σ'.set i none) H'⟩ (σ.set i (some (.ref a))) H) : wAs K c i ts Wout ⟨nx, rt, bk, ct⟩ cls d σ H :=
  ⟨true, e, fun _ => k, fun q => Bool.noConfusion q⟩
theorem w_asF {D : Ends} (e : PySem.W.exmOne K cls c = some false) (k : Wout cls d σ H) : wAs K c i ts Wout D cls d σ H :=
  ⟨false, e, fun q => Bool.noConfusion q, fun _ => k⟩
/-- e.f, e the caught exception at a, of the class cls, its dict d -/
def tXfG (K : PySem.W.Frag) (a : Addr) (cls : Value) (d : Option Addr) (f : Str) (te : TE) : TE := fun σ H Q => te σ H fun x H1 => x = .ref a ∧ ∃ (C dd : Addr) (fs : List (Str × V)) (v : V), cls = .ref C ∧ d = some dd ∧ XfC K C ∧ PySem.W.findIn K (.ref C) f = some none ∧ H1 dd = some (.xd fs) ∧ fs.lookup f = some v ∧ Q v H1
theorem pe_xfG {X : Cx} {a : Addr} {oe : Obj} {cls : Value} {d : Option Addr} {pn : List (Addr × Obj)} {e : Expr} {te : TE} {pos : Pos} {n : Str}
    (hz : Zc cls d oe) (hf : ∃ vs, oe.data = .fields vs) (he : PE (X.suite a ((a, oe) :: pn)) e te) (hb : attributeBase e n X.env (eval e X.env) = eval e X.env := by rfl) :
    PE (X.suite a ((a, oe) :: pn)) (.Attribute e n pos) (tXfG X.K a cls d n te) := by
  refine ⟨fun pins s σ H Q I h => ?_⟩
  refine attr_of hb (thn (he.run pins s σ H _ I h) fun u s1 hh => ?_)
  obtain ⟨x, H1, I1, rx, ex, C, dd, fs, v, ec, ed, T, hno, ea, l, q⟩ := hh
  subst ex
  obtain rfl : u = Value.ref a := rx
  subst ec
  subst ed
  obtain ⟨ha, _⟩ := I1.pin (a, oe) (List.mem_append_left _ List.mem_cons_self)
  obtain ⟨vs, hd⟩ := hf
  have hx : ObjOk X.prog X.w H1 s1.heap dd (.xd fs) := I1.hok dd _ ea
  obtain ⟨mA, hns, hr⟩ := hx
  obtain ⟨od, ho, hl⟩ := lookIn_ns hns
  obtain ⟨u, hu, ru⟩ := RelO.some_of (v := v) (o := mA n) (by rw [← l]; exact hr n)
  have J : PySem.W.InstAt s1.heap a oe C (some od) := ⟨ha, hz.1, by unfold PySem.W.notCls; rw [hd] <;> rfl, by rw [hz.2]; exact ho⟩
  exact HandSPX.exc_get I1.kIn J T.ga T.gg T.exC (PySem.W.findObj_own T.hdC hno rfl (by rw [hl, hu])) (handed_of ru) ⟨v, H1, I1.tok _, ru, q⟩
/-- isinstance(e, C) of the caught exception -/
def rIsG (K : PySem.W.Frag) (a : Addr) (cls : Value) (d : Option Addr) : List V → Hp → VK → Prop := fun xs H Q => ∃ (C dd : Addr) (fs : List (Str × V)) (c : V) (cv : Value) (b : Bool), xs = [.ref a, c] ∧ cls = .ref C ∧ d = some dd ∧ H dd = some (.xd fs) ∧ ExcC K C ∧ ClsV c cv ∧ PySem.W.kitOne K (.ref C) cv = some b ∧ Q (.bl b) H
theorem call_isG {X : Cx} {a : Addr} {oe : Obj} {cls : Value} {d : Option Addr} {pn : List (Addr × Obj)} (hz : Zc cls d oe) (hf : ∃ vs, oe.data = .fields vs) : CallR (X.suite a ((a, oe) :: pn)) (.builtin "isinstance") (rIsG X.K a cls d) := by
  intro pins s σ H xs us Q I r h
  obtain ⟨C, dd, fs, c, cv, b, rfl, rfl, rfl, hdd, E, hcv, e, q⟩ := h
  obtain ⟨u1, u2, rfl, r1, r2⟩ := vals2 r
  have e2 := hcv.eq r2
  subst e2
  cases r1
  obtain ⟨ha, _⟩ := I.pin (a, oe) (List.mem_append_left _ List.mem_cons_self)
  obtain ⟨vs, hd⟩ := hf
  have hx : ObjOk X.prog X.w H s.heap dd (.xd fs) := I.hok dd _ hdd
  obtain ⟨mA, hns, hr⟩ := hx
  obtain ⟨od, ho, hl⟩ := lookIn_ns hns
  have J : PySem.W.InstAt s.heap a oe C (some od) := ⟨ha, hz.1, by unfold PySem.W.notCls; rw [hd] <;> rfl, by rw [hz.2]; exact ho⟩
  have hcl : (PySem.W.clsIn X.K C).isSome = true := by
    obtain ⟨cd, hc, _⟩ := PySem.W.any_some E.hd
    rw [hc]; rfl
  exact PySem.W.kia_one (PySem.W.kitx_exc hcl E.hg E.hk E.hs E.ha E.hn E.ht E.hm) I.kIn J e (fun z => nomatch z) fun tk => ⟨.bl b, H, I.kept (t' := tk) fun _ _ z => z, rfl, q⟩
end
/-- in the suite: the exception that is handled has no context -/
theorem hot_suite {X : Cx} {a : Addr} {oe : Obj} {cls : Value} {d : Option Addr} {pn : List (Addr × Obj)} (hz : L2N.Zn cls d oe) (hf : ∃ vs, oe.data = .fields vs) : L2H.HotC (X.suite a ((a, oe) :: pn)) := by
  obtain ⟨vs, hd⟩ := hf
  exact ⟨(a, oe), ⟨rfl, vs, hd, hz.2.2 vs hd⟩, List.mem_cons_self⟩
end Lk
namespace Lk
open PySem PySem.Spec PyProof.Rows L2

/-! ### a op b op c op d -/
def tChain3 (r r' r'' : R2) (ta tb tc td : TE) : TE := fun σ H Q => ta σ H fun x H1 => tb σ H1 fun y H2 => r x y H2 fun z H3 => aB z H3 fun k H3 =>
  if k = true then tc σ H3 fun w' H4 => r' y w' H4 fun z H5 => aB z H5 fun k H5 => if k = true then td σ H5 fun v' H6 => r'' w' v' H6 Q else Q (.bl false) H5 else Q (.bl false) H3
theorem s_chain3 {σ : St} {H : Hp} {Q : VK} {r r' r'' : R2} {ta tb tc td : TE} (k : ta σ H fun x H1 => tb σ H1 fun y H2 => r x y H2 fun z H3 => aB z H3 fun k H3 =>
  if k = true then tc σ H3 fun w' H4 => r' y w' H4 fun z H5 => aB z H5 fun k H5 => if k = true then td σ H5 fun v' H6 => r'' w' v' H6 Q else Q (.bl false) H5 else Q (.bl false) H3) : tChain3 r r' r'' ta tb tc td σ H Q := k
theorem pt_chain3A {X : Cx} {op op' op'' : CmpOp} {r r' r'' : R2} {e1 e2 e3 e4 : Expr} {ta tb tc td : TE} {pos : Pos} (ho : OpR X (compareOp op) r) (ho' : OpR X (compareOp op') r') (ho'' : OpR X (compareOp op'') r'') (ha : PE X e1 ta) (hb : PE X e2 tb) (hc : PE X e3 tc) (hd : PE X e4 td)
    (hm : lastMarks [op, op', op''] [e2, e3, e4] = false := by with_unfolding_all rfl) : PT X (.Compare e1 [op, op', op''] [e2, e3, e4] pos) (cB (tChain3 r r' r'' ta tb tc td)) := by
  refine ⟨fun pins s σ H Q I h => ?_⟩
  refine isTrue_chain (thn (ha.run pins s σ H _ I h) fun v s1 ⟨x, H1, I1, r1, q1⟩ => test_link (thn (hb.run pins s1 σ H1 _ I1 q1) fun u s2 ⟨y, H2, I2, r2, q2⟩ =>
    thn (ho pins s2 σ H2 x y v u _ I2 r1 r2 q2) fun d s3 ⟨z, H3, I3, r3, k, e, q3⟩ => ?_)) hm
  subst e
  cases r3
  refine wpAny_truthy_bool ?_
  cases k with
  | false =>
    obtain ⟨k', e', q'⟩ := q3
    cases e'
    exact ite_ff ⟨H3, I3, q'⟩
  | true =>
    refine ite_tt (test_link (thn (hc.run pins s3 σ H3 _ I3 q3) fun w' s4 ⟨z', H4, I4, r4, q4⟩ => thn (ho' pins s4 σ H4 y z' u w' _ I4 r2 r4 q4) fun d' s5 ⟨z2, H5, I5, r5, k2, e2, q5⟩ => ?_))
    subst e2
    cases r5
    refine wpAny_truthy_bool ?_
    cases k2 with
    | false =>
      obtain ⟨k', e', q'⟩ := q5
      cases e'
      exact ite_ff ⟨H5, I5, q'⟩
    | true =>
      refine ite_tt (test_last (thn (hd.run pins s5 σ H5 _ I5 q5) fun w6 s6 ⟨z6, H6, I6, r6, q6⟩ => thn (ho'' pins s6 σ H6 z' z6 w' w6 _ I6 r4 r6 q6) fun d7 s7 ⟨z7, H7, I7, r7, k7, e7, q7⟩ => ?_))
      subst e7
      cases r7
      exact wpAny_truthy_bool ⟨H7, I7, q7⟩

theorem roomH_units {k : Nat} {A : Around} (r : L2H.RoomH k A) : A.units + 64 < cLine := by have := r.un; omega
theorem roomH_s {j k : Nat} {A A' : Around} (r : L2H.RoomH j A) (h : k ≤ j) (e1 : A'.depth = A.depth) (e2 : A'.units = A.units) : L2H.RoomH k A' :=
  ⟨by have := r.dp; omega, by have := r.un; omega⟩
/-! ### addresses -/
theorem ne_n {H : Hp} {a b : Addr} {o : HO} (h' : H b = none) (h : H a = some o) : a ≠ b := ne_of_none h h'
theorem ne_n' {H : Hp} {a b : Addr} {o : HO} (h' : H a = none) (h : H b = some o) : a ≠ b := Ne.symm (ne_of_none h h')
theorem upd_new {H : Hp} {p a : Addr} {o u : HO} (n : H p = none) (h : H a = some u) : upd H p o a = some u := upd_get (ne_of_none h n) h
/-- another kind of thing was at p -/
theorem upd_kind {H : Hp} {p a : Addr} {o u u' : HO} (hp : H p = some u') (h : H a = some u) (n : u ≠ u') : upd H p o a = some u := upd_get (ne_of h hp n) h
/-! ### members -/
section
variable {i : Int} {p : Addr} {H : Hp} {Q : VK} {us : List Int} {K : PySem.W.Frag}
theorem eqV_int (a b : Int) : eqV (.int a) (.int b) = decide (a = b) := by
  have : eqV (.int a) (.int b) = (a == b) := rfl
  rw [this]; rfl
theorem inV_int : ∀ us : List Int, inV (.int i) (us.map V.int) = decide (i ∈ us)
  | [] => by simp [inV]
  | u :: us => by
    have h := inV_int us
    unfold inV at h ⊢
    rw [List.map_cons, List.any_cons, h, eqV_int]
    by_cases z : u = i
    · simp [z]
    · have z2 : ¬ i = u := fun q => z q.symm
      simp [z, z2]
theorem flat_int : ∀ us : List Int, (us.map V.int).all flatV = true
  | [] => rfl
  | u :: us => by rw [List.map_cons, List.all_cons, flat_int us]; rfl
theorem w_inI (hp : H p = some (.lst (us.map V.int))) (k : Q (.bl (decide (i ∈ us))) H) : rIn K false (.int i) (.ref p) H Q :=
  ⟨p, _, rfl, .inl (SqL.of hp), rfl, flat_int us, by rw [inV_int]; exact k⟩
theorem w_notInI (hp : H p = some (.lst (us.map V.int))) (k : Q (.bl (!decide (i ∈ us))) H) : rIn K true (.int i) (.ref p) H Q :=
  ⟨p, _, rfl, .inl (SqL.of hp), rfl, flat_int us, by rw [inV_int]; exact k⟩
theorem w_eqLI' {ns ms : List Int} {q : Addr} (hp : H p = some (.lst (ns.map V.int))) (hq : H q = some (.lst (ms.map V.int))) (k : Q (.bl (decide (ns = ms))) H) : aEq K (.ref p) (.ref q) H Q := w_eqLI (SqL.of hp) (SqL.of hq) k
theorem w_eqLI0 {ns : List Int} {q : Addr} (hp : H p = some (.lst (ns.map V.int))) (hq : H q = some (.lst [])) (k : Q (.bl (decide (ns = []))) H) : aEq K (.ref p) (.ref q) H Q := w_eqLI (ms := []) (SqL.of hp) (SqL.of hq) k
theorem w_neLI' {ns ms : List Int} {q : Addr} (hp : H p = some (.lst (ns.map V.int))) (hq : H q = some (.lst (ms.map V.int))) (k : Q (.bl (!decide (ns = ms))) H) : aNe K (.ref p) (.ref q) H Q := w_neLI (SqL.of hp) (SqL.of hq) k
theorem w_neLI0 {ns : List Int} {q : Addr} (hp : H p = some (.lst (ns.map V.int))) (hq : H q = some (.lst [])) (k : Q (.bl (!decide (ns = []))) H) : aNe K (.ref p) (.ref q) H Q := w_neLI (ms := []) (SqL.of hp) (SqL.of hq) k
end
/-! ### raise -/
theorem s_mkx {C : Addr} {fs : List Str} {ta : TA} {σ : St} {H : Hp} {Q : XK} (k : ta σ H fun vs H1 => vs.length = fs.length ∧ ∀ d, H1 d = none → Q (.ref C) (some d) (upd H1 d (.xd (fs.zip vs)))) : tMkX C fs ta σ H Q := k
theorem w_and {A B : Prop} (a : A) (b : B) : A ∧ B := ⟨a, b⟩
theorem s_xf {K : PySem.W.Frag} {a : Addr} {cls : Value} {d : Option Addr} {f : Str} {te : TE} {σ : St} {H : Hp} {Q : VK} (k : te σ H fun x H1 => x = .ref a ∧ ∃ (C dd : Addr) (fs : List (Str × V)) (v : V), cls = .ref C ∧ d = some dd ∧ XfC K C ∧ PySem.W.findIn K (.ref C) f = some none ∧ H1 dd = some (.xd fs) ∧ fs.lookup f = some v ∧ Q v H1) : tXfG K a cls d f te σ H Q := k
/-- the exception's field -/
def aXf (K : PySem.W.Frag) (a : Addr) (C : Addr) (dd : Addr) (f : Str) (Q : VK) : VK := fun x H1 => x = .ref a ∧ ∃ (fs : List (Str × V)) (v : V), XfC K C ∧ PySem.W.findIn K (.ref C) f = some none ∧ H1 dd = some (.xd fs) ∧ fs.lookup f = some v ∧ Q v H1
theorem s_xfR {K : PySem.W.Frag} {a C dd : Addr} {f : Str} {te : TE} {σ : St} {H : Hp} {Q : VK} (k : te σ H (aXf K a C dd f Q)) : tXfG K a (.ref C) (some dd) f te σ H Q := by
  have e : (fun x H1 => x = V.ref a ∧ ∃ (C' dd' : Addr) (fs : List (Str × V)) (v : V), Value.ref C = .ref C' ∧ some dd = some dd' ∧ XfC K C' ∧ PySem.W.findIn K (.ref C') f = some none ∧ H1 dd' = some (.xd fs) ∧ fs.lookup f = some v ∧ Q v H1) = aXf K a C dd f Q := by
    funext x H1
    apply propext
    constructor
    · rintro ⟨e, C', dd', fs, v, h1, h2, h3⟩
      cases h1
      cases h2
      exact ⟨e, fs, v, h3⟩
    · rintro ⟨e, fs, v, h3⟩
      exact ⟨e, C, dd, fs, v, rfl, rfl, h3⟩
  unfold tXfG
  rw [e]
  exact k
theorem w_xf {K : PySem.W.Frag} {a C dd : Addr} {f : Str} {H : Hp} {Q : VK} {fs : List (Str × V)} {v : V} (hd : H dd = some (.xd fs)) (hC : XfC K C) (hn : PySem.W.findIn K (.ref C) f = some none) (hl : fs.lookup f = some v) (k : Q v H) : aXf K a C dd f Q (.ref a) H := ⟨rfl, fs, v, hC, hn, hd, hl, k⟩
theorem w_isG {K : PySem.W.Frag} {a C D dd : Addr} {H : Hp} {Q : VK} {fs : List (Str × V)} {b : Bool} (hd : H dd = some (.xd fs)) (E : ExcC K C) (e : PySem.W.kitOne K (.ref C) (.ref D) = some b) (k : Q (.bl b) H) : rIsG K a (.ref C) (some dd) [.ref a, .ref D] H Q :=
  ⟨C, dd, fs, _, _, b, rfl, rfl, rfl, hd, E, .own D, e, k⟩
theorem w_isGv {K : PySem.W.Frag} {a C dd : Addr} {n : String} {H : Hp} {Q : VK} {fs : List (Str × V)} {b : Bool} (hd : H dd = some (.xd fs)) (E : ExcC K C) (e : PySem.W.kitOne K (.ref C) (.type n) = some b) (k : Q (.bl b) H) : rIsG K a (.ref C) (some dd) [.ref a, .ty n] H Q :=
  ⟨C, dd, fs, _, _, b, rfl, rfl, rfl, hd, E, .ty n, e, k⟩

/-! ### lists of pairs of ints -/
/-- xs holds, one by one, tuples of the pairs ps -/
inductive Prs (H : Hp) : List V → List (Int × Int) → Prop
  | nil : Prs H [] []
  | cons {r xs i j ps} : H r = some (.tup [.int i, .int j]) → Prs H xs ps → Prs H (.ref r :: xs) ((i, j) :: ps)
theorem Prs.kp {H H' : Hp} {xs : List V} {ps : List (Int × Int)} (h : Prs H xs ps) (k : ∀ a o, (∃ i j, o = HO.tup [.int i, .int j]) → H a = some o → H' a = some o) : Prs H' xs ps := by
  induction h with
  | nil => exact .nil
  | cons h1 _ ih => exact .cons (k _ _ ⟨_, _, rfl⟩ h1) ih
theorem Prs.len {H : Hp} {xs : List V} {ps : List (Int × Int)} (h : Prs H xs ps) : xs.length = ps.length := by
  induction h with
  | nil => rfl
  | cons _ _ ih => simp [ih]
theorem Prs.snoc {H : Hp} {xs : List V} {ps : List (Int × Int)} {r : Addr} {i j : Int} (h : Prs H xs ps) (e : H r = some (.tup [.int i, .int j])) : Prs H (xs ++ [.ref r]) (ps ++ [(i, j)]) := by
  induction h with
  | nil => exact .cons e .nil
  | cons h1 _ ih => exact .cons h1 ih
theorem Prs.get {H : Hp} {xs : List V} {ps : List (Int × Int)} (h : Prs H xs ps) : ∀ {k : Nat} {p : Int × Int}, ps[k]? = some p → ∃ r, xs[k]? = some (.ref r) ∧ H r = some (.tup [.int p.1, .int p.2]) := by
  induction h with
  | nil => intro k p e; simp at e
  | cons h1 _ ih =>
    intro k p e
    cases k with
    | zero => simp at e; subst e; exact ⟨_, rfl, h1⟩
    | succ k => simpa using ih (by simpa using e)
theorem Prs.new {H : Hp} {xs : List V} {ps : List (Int × Int)} {p : Addr} {o : HO} (h : Prs H xs ps) (hp : H p = none) : Prs (upd H p o) xs ps := h.kp fun a u _ e => by rw [upd_ne (ne_of_none e hp)]; exact e
/-- a list is changed -/
theorem Prs.mut {H : Hp} {xs ys : List V} {ps : List (Int × Int)} {p : Addr} {o : HO} (h : Prs H xs ps) (hp : H p = some (.lst ys)) : Prs (upd H p o) xs ps := h.kp fun a u z e => by
  obtain ⟨i, j, rfl⟩ := z
  rw [upd_ne (ne_of e hp (by intro q; cases q))]; exact e
theorem Prs.kp0 {H H' : Hp} {xs : List V} {ps : List (Int × Int)} (h : Prs H xs ps) (k : Kp [] H H') : Prs H' xs ps := h.kp fun a o _ e => k a o e List.not_mem_nil
theorem Prs.nilI {H : Hp} : Prs H [] [] := .nil
end Lk
namespace Lk
open PySem PySem.W PySem.Spec PyProof.Rows L2
theorem noCX {P : Program} (w : World) (H : L2.Hp) (s : Shared) (e : Value) (s' : Shared) (h : L2N.CX P w [] H s (fun _ _ _ => False) e s') : False := by
  obtain ⟨_, _, _, _, _, _, _, _, _, _, _, _, z⟩ := h
  exact z
section
variable {P : Program} {w : World} {K : Frag} {mg : Str → Option Value} {base : Heap}
theorem FnOk_of {x qual : Str} {st : Stmt} {f : Addr} {fd : FuncData} {N ps : List Str} {k : Nat} {sp : L2.Sp} (F : L2.Fun K x qual st f fd) (S : L2.FnScope N ps (L2.defScope st)) (len : ∀ vs H Q E, sp vs H Q E → vs.length = ps.length)
    (hbody : ∀ (cdv : Value) (A : Around) (outer : List Env) (s : Shared) (H : L2.Hp) (vs : List L2.V) (Q : L2.VK) (E : L2.XK), L2.Room k (A.deeper (envOfC qual (L2.defScope st) s.heap.objs.size f cdv)) → L2N.Takes (L2.cxOf (L2N.CX P w) P w K mg base N qual (L2.defScope st) f cdv A outer s H E) (fun cls d _ H' => E cls d H') →
      PassesOwn (model P w) (L2.cxOf (L2N.CX P w) P w K mg base N qual (L2.defScope st) f cdv A outer s H E).A (L2.cxOf (L2N.CX P w) P w K mg base N qual (L2.defScope st) f cdv A outer s H E).env (L2.cxOf (L2N.CX P w) P w K mg base N qual (L2.defScope st) f cdv A outer s H E).xe → sp vs H Q E →
      ∃ t, L2.PSs (L2.cxOf (L2N.CX P w) P w K mg base N qual (L2.defScope st) f cdv A outer s H E) (L2.defBody st) t ∧ t { nx := fun _ H' => Q .non H', rt := Q } (L2.start N vs) H) : L2.FnOk P w K mg base (L2N.CX P w) (k + 1) f fd ps sp := by
  obtain ⟨oc, od, kV, doc, pm, an, cdv, ct, osl, rfl, lk, hcd⟩ := F.ex
  exact L2.fn_of lk hcd S len fun A outer s H vs Q E hr hsp => hbody cdv A outer s H vs Q E hr (L2N.takes_of rfl rfl rfl rfl) (passes_of rfl) hsp
end
/-- facts of all of a list's members -/
def AllIn (K : Frag) (C : Addr) : List Str → Prop
  | [] => True
  | f :: fs => findIn K (.ref C) f = some none ∧ AllIn K C fs
theorem all_in {K : Frag} {C : Addr} : ∀ {fs : List Str}, AllIn K C fs → ∀ f ∈ fs, findIn K (.ref C) f = some none
  | [], _ => fun f hf => by cases hf
  | g :: fs, h => fun f hf => by
    rcases List.mem_cons.mp hf with z | z
    · rw [z]; exact h.1
    · exact all_in h.2 f z
section
variable {K : Frag} {C D : Addr} {b : Bool}
/-- D is an exception class -/
structure DC (K : Frag) (D : Addr) : Prop where
  i : isClsIn K D = true
  t : typeIn K (.ref D) = some (.type "type")
  b : subIn K (.ref D) (.type "BaseException") = some true
theorem kit_cls' (d : DC K D) (s : subIn K (.ref C) (.ref D) = some b) : kitCls K (.ref C) (.ref D) = some b := by
  have h2' : (clsIn K D).isSome = true := d.i
  have e2 : ((clsIn K D).isSome && typeIn K (.ref D) == some (.type "type")) = true := by
    rw [h2', d.t] <;> rfl
  show (if ((clsIn K D).isSome && typeIn K (.ref D) == some (.type "type")) = true then subIn K (.ref C) (.ref D) else none) = some b
  rw [if_pos e2]
  exact s
theorem kit_mk (d : DC K D) (r : subIn K (.ref C) (.ref C) = some true) (s : subIn K (.ref C) (.ref D) = some b) : kitOne K (.ref C) (.ref D) = some b ∧ exmOne K (.ref C) (.ref D) = some b := by
  have k := kit_cls' d s
  refine ⟨?_, ?_⟩
  · unfold kitOne
    by_cases z : C = D
    · subst z
      rw [r] at s
      rw [← s]
      rw [if_pos (by simp)]
    · rw [if_neg (by simp [z])]
      exact k
  · unfold exmOne
    rw [if_pos (by rw [d.b] <;> rfl)]
    exact k
theorem kit_val (s : subIn K (.ref C) (.type "ValueError") = some true) : kitOne K (.ref C) (.type "ValueError") = some true := by
  have e : kitOne K (.ref C) (.type "ValueError") = if kitMeta "ValueError" = true then subIn K (.ref C) (.type "ValueError") else none := rfl
  rw [e, if_pos (by decide +kernel)]
  exact s
/-- what an own exception's class says -/
theorem exc_ef (hg : findIn K (.ref C) "__getattribute__" = some (some (.builtin "BaseException.__getattribute__"))) (hk : findIn K (.ref C) "__getattr__" = some none) (hs : subIn K (.ref C) (.type "BaseException") = some true) (hd : hasDictIn K C = true)
    (ha : findIn K (.ref C) "__class__" = some (some (.builtin "object.__class__"))) (hn : specialIn K (.builtin "object.__class__") "__get__" = some (some (.builtin "getset_descriptor.__get__"))) (ht : takesIn K (.builtin "object.__class__") = some true) (hm : mroIn K C (.type "object") = some true) : L2.ExcC K C ∧ L2.XfC K C :=
  ⟨⟨hg, hk, hs, hd, ha, hn, ht, hm⟩, ⟨hg, hk, hs, hd⟩⟩
theorem nm_mk {h : Heap} {mg : Str → Option Value} {x : Str} {st : Stmt} {f : Addr} {oc : Value} {od an : Option Addr} {osl : Array (Option Value)} {kV doc pm cdv ct : Value} (X : K.In h) (G : h.Ns mainGlobals mg) (a : nsIn K mainGlobals x = some (some (.ref f)))
    (l : K.lookup f = some ⟨oc, od, .func (fnOf x x (L2.defArgs st) (L2.defBody st) (L2.defScope st) .none kV doc pm an cdv ct), osl⟩) (c : codeIn K cdv x = true) (k : keepIn K (.ref f) = true) :
    Nm K mg x f ∧ L2.Fun K x x st f (fnOf x x (L2.defArgs st) (L2.defBody st) (L2.defScope st) .none kV doc pm an cdv ct) := ⟨⟨mg_of X G a, k⟩, L2.fun_mk l c k⟩
end
end Lk
namespace LkX
open PySem PySem.W PySem.Calls PyProof.Rows PySem.HandSPX
theorem exc_mk {prog : Program} {K : Frag} {C fI : Addr} {fs : List Str} {st : Stmt} {qual : Str} {nm q : Str} {N : Addr} {bs bm : List Value} {sn : List Str} {sub : List Value} {ab : Bool} {col : Option Bool} {dd : Option Addr} {k0 k1 k2 k3 k5 : Option Value}
    {oc : Value} {od : Option Addr} {doc pm : Value} {an : Option Addr} {cda : Addr} {ct : Value} {cc : Addr} {osl : Array (Option Value)} {ccl : Value} {cdd : Option Addr} {cvs : Array Value} {ccs : Array (Option Value)} {file : Str} {tf : Tok} {cl : Value} {cld : Option Addr} {csl : Array (Option Value)} {ar : Arg}
    (iC : findIn K (.ref C) "__init__" = some (some (.ref fI)))
    (xL : K.lookup C = some (excClassObj nm q C N bs bm true sn sub ab col dd k0 k1 k2 k3 k5 "ValueError.__new__"))
    (l : K.lookup fI = some ⟨oc, od, .func (ksFn "__init__" qual (L2.defArgs st) (L2.defBody st) (L2.defScope st) .none .none doc pm an (.ref cda) ct cc), osl⟩) (c : codeIn K (.ref cda) qual = true)
    (l2 : K.lookup cda = some ⟨ccl, cdd, .fields cvs, ccs⟩) (l3 : K.lookup cc = some ⟨cl, cld, .cell (some (.ref C)), csl⟩)
    (sa : findIn K (.ref C) "__setattr__" = some (some (.builtin "object.__setattr__"))) (tI : typeIn K (.ref fI) = some (.type "function")) (kC : keepIn K (.ref C) = true) (exC : subIn K (.ref C) (.type "BaseException") = some true)
    (tyC : typeIn K (.ref C) = some (.type "type")) (vE : subIn K (.ref C) (.type "ValueError") = some true) (op : nsIn K cStatics "thirdparty.any" = some none) (gs : nsIn K mainGlobals "super" = some none)
    (su : ks_superIn K C C "__init__" = some (some (.builtin "ValueError.__init__"))) (bmv : refsVE bm = true) (noN : ∀ f ∈ fs, findIn K (.ref C) f = some none)
    (v2 : cvs[2]? = some (.str file tf)) (fil : ((prog.main.file : Str) == file) = true) (ib : InitBody fs (L2.defBody st)) (hd : ((L2.defArgs st).posonlyargs ++ (L2.defArgs st).args).head? = some ar) (har : ar.arg = "self")
    (s0 : (prog.main.scope.names.lookup ("super" : Str)).isSome = false) (s1 : (L2.defScope st).names.lookup ("super" : Str) = some .globalImplicit) (s2 : (L2.defScope st).names.lookup ("__class__" : Str) = some .free) (s3 : ∀ x ∈ (L2.defScope st).names, x.2 ≠ .cell)
    (s4 : ∀ f ∈ ("self" : Str) :: fs, (L2.defScope st).names.lookup f = some .local) (s5 : (L2.defScope st).isCoroutine = false) (s6 : (L2.defScope st).isGenerator = false) (s7 : (L2.defScope st).kind = .function)
    (ba : ∀ us : List Value, us.length = (("self" : Str) :: fs).length → bindArgs (ksFn "__init__" qual (L2.defArgs st) (L2.defBody st) (L2.defScope st) .none .none doc pm an (.ref cda) ct cc) ⟨us, []⟩ = pure ((("self" : Str) :: fs).zip us))
    (nd : (("self" : Str) :: fs).Nodup) (nb : ∀ f ∈ ("self" : Str) :: fs, (f == ("__debug__" : Str)) = false) (few : fs.length ≤ 100) : ExcTxt prog K C fI fs where
  cls := ⟨nm, q, N, bs, bm, sn, sub, ab, col, dd, k0, k1, k2, k3, k5, xL, bmv⟩
  sa := sa
  noN := noN
  iC := iC
  tI := tI
  kC := kC
  exC := exC
  tyC := tyC
  vE := vE
  su := su
  op := op
  gs := gs
  fn := ⟨qual, _, _, _, oc, od, doc, pm, an, cda, ct, cc, osl, ccl, cdd, cvs, ccs, file, tf, cl, cld, csl, ar, l, c, l2, v2, fil, l3, ib, hd, har, s0, s1, s2, s3, s4, s5, s6, s7, ba⟩
  nd := nd
  nb := nb
  few := few
end LkX
namespace Lk
open PySem PySem.Spec PyProof.Rows L2

/-! ### static methods -/
/-- C.m is a static method: its record at p, its def at g -/
structure CSta (K : PySem.W.Frag) (C : Addr) (m : Str) (p g : Addr) : Prop where
  at_ : PySem.W.findCls K (.ref C) (.type "type") m = some (.get (.builtin "staticmethod.__get__") (.ref p) .none (.ref C))
  rc : ∃ rest, PySem.W.recIn K p "staticmethod" = some (.ref g :: rest)
  kp : PySem.W.keepIn K (.ref g) = true
theorem CSta.mk' {K : PySem.W.Frag} {C : Addr} {m : Str} {p g : Addr} {rest : List Value} (a : PySem.W.findCls K (.ref C) (.type "type") m = some (.get (.builtin "staticmethod.__get__") (.ref p) .none (.ref C))) (b : PySem.W.recIn K p "staticmethod" = some (.ref g :: rest)) (c : PySem.W.keepIn K (.ref g) = true) : CSta K C m p g := ⟨a, ⟨rest, b⟩, c⟩
section
variable {X : Cx} {pins : List (Addr × Obj)} {σ : St} {H : Hp} {s : Shared} {C p g : Addr} {m : Str} {A : Around} {E : Value → Shared → Prop}
theorem getmethst_ok {pl : Sem Bool} {Q : Value × List Value → Shared → Prop} (I : Inv X pins σ H s) (r : ClX.CRead X.K C (.type "type")) (k : CSta X.K C m p g)
    (h : ∀ s', Inv X pins σ H s' → Q (.ref g, []) s') : wpAny (model X.prog X.w) A (getMethod (.ref C) m pl) Q E s := by
  obtain ⟨rest, hp⟩ := k.rc
  refine PySem.W.method_cls I.kIn r.ga (PySem.W.cls_bind I.kIn r.rd k.at_ ?_)
  refine wpAny_call (PySem.W.sm_get (s := { s with toks := s.toks + 1 }) I.kIn hp (PySem.W.handed_on rfl ?_))
  exact h _ (I.tok _)
end
section
variable {X : Cx} {k : Nat} {f C p0 g : Addr} {ps : List Str} {sp : Sp} {W : WX} {x m : Str} {p pos apos : Pos} {e o : Expr} {es : List Expr} {ta : TE} {t : TA}
/-- how o.m(args) goes -/
def MTree (X : Cx) (pl : Sem Bool) (o : Expr) (m : Str) (args : List Expr) (pos apos : Pos) : Prop :=
  eval (.Call (.Attribute o m apos) args [] pos) X.env = (do let obj ← eval o X.env; standAt apos.atName; let (fn, fst) ← holding [obj] (getMethod obj m pl); callWith pos fn fst (backTo pos (starEach args X.env)) (backToKw pos (keywordEach [] X.env)))
/-- C.m(e, ..), m static -/
theorem pe_static {pl : Sem Bool} (G : FnA X.prog X.w X.K X.mg X.base k g ps sp) (hr : Room k X.A) (r : ClX.CRead X.K C (.type "type")) (c : CSta X.K C m p0 g) (hm : X.mg x = some (.ref C)) (tk : L2N.Takes X W)
    (ha : PA X (e :: es) t) (hg : Gl X x := by rfl) (hdb : (x == ("__debug__" : Str)) = false := by decide) (hst : starEach (e :: es) X.env = (false, eval e X.env) :: starEach es X.env := by rfl) (hpl : (backTo pos (starEach es X.env)).any (·.1) = false := by rfl) (ht : MTree X pl (.Name x p) m (e :: es) pos apos := by rfl) :
    PE X (.Call (.Attribute (.Name x p) m apos) (e :: es) [] pos) (tCallS sp (WE W) t) := by
  obtain ⟨fd, F, b⟩ := G
  refine ⟨fun pins s σ H Q I h => ?_⟩
  refine PySem.W.methodCall_KW (pl := pl) (ld_glob I hg hm ?_ hdb) ht
  refine getmethst_ok I r c fun s2 I2 => ?_
  refine PySem.W.callWith_K (first := []) (h₀ := X.base) I.ok.mod.kin c.kp (thn (ha.run pos pins s2 σ H _ I2 h) fun us s3 ⟨vs, H2, I3, rv, q2⟩ => ⟨I3.kIn, ?_⟩) hst hpl
  exact run_fnS (E := WE W) F hr b (L2N.passAt tk σ) I3 rv q2
/-! ### methods of instances -/
/-- o.m(..) -/
def tMethS (K : PySem.W.Frag) (C : Addr) (m : Str) (sp : Sp) (E : St → XK) (ta : TE) (t : TA) : TE := fun σ H Q => ta σ H fun x H1 => ∃ a dx fs, x = .ref a ∧ H1 a = some (.ins C dx fs) ∧ fs.lookup m = none ∧ t σ H1 fun vs H2 => sp (x :: vs) H2 Q (E σ)
theorem pe_methS {pl : Sem Bool} (G : FnA X.prog X.w X.K X.mg X.base k f ps sp) (hr : Room k X.A) (c : Cls X.K C) (hm : Meth X.K C m f) (tk : L2N.Takes X W) (he : PE X o ta) (ha : PA X (e :: es) t)
    (hst : starEach (e :: es) X.env = (false, eval e X.env) :: starEach es X.env := by rfl) (hpl : (backTo pos (starEach es X.env)).any (·.1) = false := by rfl) (ht : MTree X pl o m (e :: es) pos apos := by rfl) :
    PE X (.Call (.Attribute o m apos) (e :: es) [] pos) (tMethS X.K C m sp (WE W) ta t) := by
  obtain ⟨fd, F, b⟩ := G
  refine ⟨fun pins s σ H Q I h => ?_⟩
  refine PySem.W.methodCall_KW (pl := pl) (thn (he.run pins s σ H _ I h) fun u s1 ⟨x, H1, I1, rx, a, dx, fs, ex, ea, l, q⟩ => ?_) ht
  subst ex
  obtain rfl : u = Value.ref a := rx
  refine getmeth_ok I1 ea c hm l ?_
  refine PySem.W.callWith_K (first := [.ref a]) (h₀ := X.base) I.ok.mod.kin hm.kp (thn (ha.run pos pins s1 σ H1 _ I1 q) fun us s2 ⟨vs, H2, I2, r, q2⟩ => ⟨I2.kIn, ?_⟩) hst hpl
  exact run_fnS (E := WE W) (us := .ref a :: us) (vs := .ref a :: vs) F hr b (L2N.passAt tk σ) I2 (.cons rfl r) q2
theorem pe_methS0 {pl : Sem Bool} (G : FnA X.prog X.w X.K X.mg X.base k f ps sp) (hr : Room k X.A) (c : Cls X.K C) (hm : Meth X.K C m f) (tk : L2N.Takes X W) (he : PE X o ta) (ht : MTree X pl o m [] pos apos := by rfl) :
    PE X (.Call (.Attribute o m apos) [] [] pos) (tMethS X.K C m sp (WE W) ta tNil) := by
  obtain ⟨fd, F, b⟩ := G
  refine ⟨fun pins s σ H Q I h => ?_⟩
  refine PySem.W.methodCall_KW (pl := pl) (thn (he.run pins s σ H _ I h) fun u s1 ⟨x, H1, I1, rx, a, dx, fs, ex, ea, l, q⟩ => ?_) ht
  subst ex
  obtain rfl : u = Value.ref a := rx
  refine getmeth_ok I1 ea c hm l ?_
  exact PySem.W.callWith_K0 (first := [.ref a]) I1.kIn hm.kp (run_fnS (E := WE W) (us := [.ref a]) (vs := [.ref a]) F hr b (L2N.passAt tk σ) I1 (.cons rfl .nil) q)
/-! ### C(e, ..) -/
def tMakeS (C : Addr) (sp : Sp) (E : St → XK) (t : TA) : TE := fun σ H Q => t σ H fun vs H1 => ∀ x dx, H1 x = none → H1 dx = none → dx ≠ x →
  sp (.ref x :: vs) (upd (upd H1 dx (.own x)) x (.ins C dx [])) (fun v H2 => v = .non ∧ Q (.ref x) H2) (E σ)
theorem pe_makeS (G : FnA X.prog X.w X.K X.mg X.base k f ps sp) (M : Mk X.K C f) (hr : Room (k + 1) X.A) (hm : X.mg x = some (.ref C)) (tk : L2N.Takes X W)
    (ha : PA X (e :: es) t) (hg : Gl X x := by rfl) (hdb : (x == ("__debug__" : Str)) = false := by decide) (he : starEach (e :: es) X.env = (false, eval e X.env) :: starEach es X.env := by rfl) (hpl : (backTo pos (starEach es X.env)).any (·.1) = false := by rfl) :
    PE X (.Call (.Name x p) (e :: es) [] pos) (tMakeS C sp (WE W) t) := by
  obtain ⟨fd, F, b⟩ := G
  refine ⟨fun pins s σ H Q I h => ?_⟩
  refine wpAny_Call_Name_kw (ld_glob I hg hm ?_ hdb)
  refine PySem.W.callWith_K (h₀ := X.base) I.ok.mod.kin M.kp (thn (ha.run pos pins s σ H _ I h) fun us s1 ⟨vs, H1, I1, r, q⟩ => ⟨I1.kIn, ?_⟩) he hpl
  have hq := q (s1.heap.objs.size + 1) s1.heap.objs.size (I1.hok.fresh (Nat.le_succ _)) (I1.hok.fresh (Nat.le_refl _)) (Nat.ne_of_lt (Nat.lt_succ_self _))
  have I2 := Inv.made (C := C) I1
  have r2 : Vals (V.ref (s1.heap.objs.size + 1) :: vs) (Value.ref (s1.heap.objs.size + 1) :: us) := .cons rfl r
  have hl : ((Value.ref (s1.heap.objs.size + 1) :: us) ++ []).length = ps.length := by
    rw [List.append_nil, ← r2.length]; exact F.len _ _ _ _ hq
  have hb2 := b _ (Value.ref (s1.heap.objs.size + 1) :: us) I2.kIn hl
  rw [List.append_nil] at hb2
  refine wpAny_call (make_map (f := f) I1.kIn M.makes M.init (beq_iff_eq.mp M.fn) (codeAny_mono (F.run _ X.stack _ _ ⟨Value.ref (s1.heap.objs.size + 1) :: us, []⟩ (Value.ref (s1.heap.objs.size + 1) :: us) _ _ _ (hr.make C us [])
    (I2.env0.make C us []) hb2 r2 hq) fun r s' hq' => ?_))
  cases r with
  | error e => exact L2N.passAt tk σ pins _ _ e s' I2 hq'
  | ok fl =>
    cases fl with
    | ret u =>
      obtain ⟨v, H', I3, rv, ev, q3⟩ := I2.after hq'
      subst ev
      exact ⟨rv, ⟨V.ref (s1.heap.objs.size + 1), H', I3, rfl, q3⟩⟩
    | next => exact False.elim hq'
    | brk => exact False.elim hq'
    | cont => exact False.elim hq'
end
/-! ### the readings, one step -/
section
variable {σ : St} {H : Hp} {Q : VK} {D : Ends} {te tv : TE} {tl : TA} {K : PySem.W.Frag} {C a dx p : Addr} {f m : Str} {fs : List (Str × V)} {v y : V} {sp : Sp} {E : St → XK} {A : Prop}
/-- x.f -/
def aFld (K : PySem.W.Frag) (f : Str) (Q : VK) : VK := fun x H1 => ∃ a C dx fs v, x = .ref a ∧ H1 a = some (.ins C dx fs) ∧ Cls K C ∧ NoAttr K C f ∧ fs.lookup f = some v ∧ Q v H1
theorem s_fld (k : te σ H (aFld K f Q)) : tFld K te f σ H Q := k
theorem w_fld (hp : H a = some (.ins C dx fs)) (c : Cls K C) (n : NoAttr K C f) (l : fs.lookup f = some v) (k : Q v H) : aFld K f Q (.ref a) H := ⟨a, C, dx, fs, v, rfl, hp, c, n, l, k⟩
/-- x.f = y -/
def aSFld (K : PySem.W.Frag) (f : Str) (y : V) (k : Hp → Prop) : VK := fun x H2 => ∃ a C dx fs, x = .ref a ∧ H2 a = some (.ins C dx fs) ∧ Cls K C ∧ NoAttr K C f ∧ fs.length < 1000 ∧ k (upd H2 a (.ins C dx (putF f y fs)))
theorem s_sfld (k : tv σ H fun y H1 => te σ H1 (aSFld K f y fun H3 => D.nx σ H3)) : sFld K te tv f D σ H := k
theorem w_sfld {k : Hp → Prop} {fs' : List (Str × V)} (hp : H a = some (.ins C dx fs)) (c : Cls K C) (n : NoAttr K C f) (l : fs.length < 1000) (e : putF f y fs = fs') (q : k (upd H a (.ins C dx fs'))) : aSFld K f y k (.ref a) H :=
  ⟨a, C, dx, fs, rfl, hp, c, n, l, by rw [e]; exact q⟩
/-- x.m(..): the object -/
def aMeth (C : Addr) (m : Str) (k : V → Hp → Prop) : VK := fun x H1 => ∃ a dx fs, x = .ref a ∧ H1 a = some (.ins C dx fs) ∧ fs.lookup m = none ∧ k x H1
theorem s_methS (k : te σ H (aMeth C m fun x H1 => tl σ H1 fun vs H2 => sp (x :: vs) H2 Q (E σ))) : tMethS K C m sp E te tl σ H Q := k
theorem w_meth {k : V → Hp → Prop} (hp : H a = some (.ins C dx fs)) (l : fs.lookup m = none) (q : k (.ref a) H) : aMeth C m k (.ref a) H := ⟨a, dx, fs, rfl, hp, l, q⟩
theorem s_makeS (k : tl σ H fun vs H1 => ∀ x dx, H1 x = none → H1 dx = none → dx ≠ x → sp (.ref x :: vs) (upd (upd H1 dx (.own x)) x (.ins C dx [])) (fun v H2 => v = .non ∧ Q (.ref x) H2) (E σ)) : tMakeS C sp E tl σ H Q := k
def aCVal (K : PySem.W.Frag) (f : Str) (Q : VK) : VK := fun x H1 => ∃ C mc v u, x = .ref C ∧ ClX.CRead K C mc ∧ ClX.CVal K C mc f v u ∧ Q v H1
theorem s_cval (k : te σ H (aCVal K f Q)) : ClX.tCVal K te f σ H Q := k
theorem w_cval {mc u : Value} (r : ClX.CRead K C mc) (c : ClX.CVal K C mc f v u) (k : Q v H) : aCVal K f Q (.ref C) H := ⟨C, mc, v, u, rfl, r, c, k⟩
end
theorem put_nil {f : Str} {v : V} : putF f v [] = [(f, v)] := rfl
theorem put_hit {f : Str} {v x : V} {r : List (Str × V)} : putF f v ((f, x) :: r) = (f, v) :: r := by
  unfold putF
  rw [if_pos rfl]
theorem put_miss {f g : Str} {v x : V} {r r' : List (Str × V)} (n : g ≠ f) (e : putF f v r = r') : putF f v ((g, x) :: r) = (g, x) :: r' := by
  rw [← e]
  show (if g = f then _ else _) = _
  rw [if_neg n]
end Lk
namespace Lk
open PySem PySem.Spec PyProof.Rows L2

/-! ### a range that is kept, then walked -/
section
variable {X : Cx} {tg : Expr}
def iRngV (te : TE) : TI := fun σ H R => te σ H fun x H1 => ∃ p lo hi, x = .ref p ∧ H1 p = some (.rng lo hi) ∧ (-(2 ^ 62) ≤ lo ∧ lo < 2 ^ 62 ∧ -(2 ^ 62) ≤ hi ∧ hi < 2 ^ 62) ∧ R (Itr lo (hi - lo).toNat) H1
theorem pi_rng {e : Expr} {te : TE} (he : PE X e te) : PI X tg e (iRngV te) := by
  refine ⟨fun pins s σ H R I h => ?_⟩
  refine thn (he.run pins s σ H _ I h) fun v0 s1 ⟨x, H1, I1, r1, q1⟩ => ?_
  obtain ⟨p, lo, hi, ex, hp, ⟨h1, h2, h3, h4⟩, q⟩ := q1
  subst ex
  cases r1
  obtain ⟨t, u, v, ho⟩ : ∃ t u v, s1.heap.get? p = some { cls := .type "range", data := .fields #[.int lo t, .int hi u, .int 1 v] } := I1.hok p _ hp
  refine wpAny_pyIter_range (a := lo) (b := hi) (c := 1) (t := t) (u := u) (v := v) ho (small_one h1 h2 h3 h4) ?_
  refine ⟨s1.heap.objs.size, [s1.heap.objs.size], _, _, H1, rfl, I1.kept (t' := s1.toks) fun b o e => Heap.get?_push_of_some _ e, turn_range _ lo (hi - lo).toNat, ?_, fun b hb => ?_, q⟩
  · have e1 : lo + ((0 : Nat) : Int) * 1 = lo := by simp
    have e2 : (((hi - lo).toNat : Nat) : Int) - ((0 : Nat) : Int) = Builtin.Range.rangeSize lo hi 1 := by rw [rangeSize_one]; split <;> omega
    show IsRangeIter _ _ (lo + ((0 : Nat) : Int) * 1) ((((hi - lo).toNat : Nat) : Int) - ((0 : Nat) : Int)) 1
    rw [e1, e2]
    exact Heap.get?_push_size _ rfl
  · have e : b = s1.heap.objs.size := by simpa using hb
    subst e
    exact I1.fpOk (Nat.le_refl _) (I1.hok.fresh (Nat.le_refl _))
def rRange2 : List V → Hp → VK → Prop := fun vs H Q => ∃ i j, vs = [V.int i, V.int j] ∧ ∀ p, H p = none → Q (.ref p) (upd H p (.rng i j))
theorem b_range2 : CallR X (.type "range") rRange2 := cr_range2
/-! ### texts -/
def rJoin (K : PySem.W.Frag) : V → List V → Hp → VK → Prop := fun x xs H Q => ∃ a p, ∃ ys : List Str, x = .str a ∧ xs = [.ref p] ∧ (SqL K H p (ys.map V.str) ∨ SqT K H p (ys.map V.str)) ∧ (ys.map (·.length)).sum + ys.length * a.length ≤ 16777216 ∧ Q (.str (Txt.join a ys)) H
theorem m_join : MtR X "str.join" (rJoin X.K) := mt_join
def rSplit : V → List V → Hp → VK → Prop := fun x xs H Q => ∃ a b, x = .str a ∧ xs = [.str b] ∧ (b.length == 0) = false ∧ a.length + 2 ≤ sizeLine ∧ rNewStrs (Txt.split a b) H Q
theorem m_split : MtR X "str.split" rSplit := mt_split
def rDigit : V → List V → Hp → VK → Prop := fun x xs H Q => ∃ a, x = .str a ∧ xs = [] ∧ True ∧ Q (.bl (Txt.isdigit a)) H
theorem m_isdigit : MtR X "str.isdigit" rDigit := mt_isdigit
def rAscii : V → List V → Hp → VK → Prop := fun x xs H Q => ∃ a, x = .str a ∧ xs = [] ∧ True ∧ Q (.bl (Txt.isascii a)) H
theorem m_isascii : MtR X "str.isascii" rAscii := mt_isascii
def rIntS : List V → Hp → VK → Prop := fun xs H Q => ∃ a n, xs = [.str a] ∧ PySem.intText? a = some n ∧ a.length ≤ 640 ∧ Q (.int n) H
def rIntA : List V → Hp → VK → Prop := fun xs H Q => rInt1 xs H Q ∨ rIntS xs H Q
theorem b_intA : CallR X (.type "int") rIntA := CallR.or b_int call_int_str
def rStrI : List V → Hp → VK → Prop := fun xs H Q => ∃ i : Int, xs = [.int i] ∧ i.natAbs.log2 < 1920 ∧ Q (.str (Str.ofString (toString i))) H
theorem b_str : CallR X (.type "str") rStrI := call_str_int
end
section
variable {K : PySem.W.Frag} {H : Hp} {Q : VK} {a b : Str} {p : Addr} {ys : List Str} {i j n : Int} {us : List Int} {α : Type} {f : α → V} {vs : List α}
theorem w_join (hp : H p = some (.lst (ys.map V.str))) (hz : (ys.map (·.length)).sum + ys.length * a.length ≤ 16777216) (k : Q (.str (Txt.join a ys)) H) : rJoin K (.str a) [.ref p] H Q := ⟨a, p, ys, rfl, rfl, .inl (SqL.of hp), hz, k⟩
theorem w_split (hb : (b.length == 0) = false) (hz : a.length + 2 ≤ sizeLine) (k : ∀ p, H p = none → Q (.ref p) (upd H p (.lst ((Txt.split a b).map V.str)))) : rSplit (.str a) [.str b] H Q := ⟨a, b, rfl, rfl, hb, hz, k⟩
theorem w_digit (k : Q (.bl (Txt.isdigit a)) H) : rDigit (.str a) [] H Q := ⟨a, rfl, rfl, trivial, k⟩
theorem w_ascii (k : Q (.bl (Txt.isascii a)) H) : rAscii (.str a) [] H Q := ⟨a, rfl, rfl, trivial, k⟩
theorem w_intA (k : Q (.int i) H) : rIntA [.int i] H Q := .inl (w_int k)
theorem w_intB {c : Bool} (k : Q (.int (if c then 1 else 0)) H) : rIntA [.bl c] H Q := .inl (.inr ⟨c, rfl, k⟩)
theorem w_intS (h : PySem.intText? a = some n) (hl : a.length ≤ 640) (k : Q (.int n) H) : rIntA [.str a] H Q := .inr ⟨a, n, rfl, h, hl, k⟩
theorem w_strI (h : i.natAbs.log2 < 1920) (k : Q (.str (Str.ofString (toString i))) H) : rStrI [.int i] H Q := ⟨i, rfl, h, k⟩
theorem w_rngV (k : ∀ p, H p = none → Q (.ref p) (upd H p (.rng i j))) : rRange2 [.int i, .int j] H Q := ⟨i, j, rfl, k⟩
theorem w_ixQ [Inhabited α] (hp : SqL K H p (vs.map f)) (h0 : 0 ≤ i) (hl : i.toNat < vs.length) (k : Q (f (vs.getD i.toNat default)) H) : rIx K (.ref p) (.int i) H Q :=
  .inl ⟨p, _, _, _, rfl, rfl, hp, atI_pos h0 (map_getD hl), k⟩
theorem w_lenQ (hp : SqL K H p (vs.map f)) (k : Q (.int vs.length) H) : rLen K [.ref p] H Q := ⟨_, _, rfl, .inl ⟨_, hp, rfl⟩, by rw [List.length_map]; exact k⟩
end
section
variable {σ : St} {H : Hp} {Q : VK} {D : Ends} {g : TG} {tt : TT} {te tl : TE} {tb : TS} {K : PySem.W.Frag} {vs : List Nat} {α β : Type} {f : α → V} {f' : β → V}
def aCRngV (g : TG) (tt : TT) (te : TE) (vs : List Nat) (σ : St) (Q : VK) (x : V) (H1 : Hp) : Prop := ∃ p lo hi, x = .ref p ∧ H1 p = some (.rng lo hi) ∧ (-(2 ^ 62) ≤ lo ∧ lo < 2 ^ 62 ∧ -(2 ^ 62) ≤ hi ∧ hi < 2 ^ 62) ∧ aComp (Itr lo (hi - lo).toNat) g tt te vs σ Q H1
theorem s_lcV (k : tl σ H fun x H1 => aCRngV g tt te vs σ Q x H1) : tLc (iRngV tl) g tt te vs σ H Q := k
theorem w_lcV (ψ : Nat → Option β) {p : Addr} {lo n : Int} (hp : H p = some (.rng lo n)) (hl1 : -(2 ^ 62) ≤ lo) (hl2 : lo < 2 ^ 62) (hn1 : -(2 ^ 62) ≤ n) (hn2 : n < 2 ^ 62) (hz : (n - lo).toNat < sizeLine)
    (hs : ∀ (D : Addr) (i : Nat) (acc : List V) (H' : Hp), H D = none → lo + (i : Int) < n → Kp [] H H' → H' D = some (.lst acc) → acc.length < sizeLine → g (.int (lo + (i : Int))) (wipe σ vs) H' fun σ2 H2 => wipe σ2 vs = wipe σ vs ∧ tt σ2 H2 fun b H3 =>
      if b = true then te σ2 H3 (aKeep H D (acc ++ (ψ i).toList.map f')) else cNx H D (acc ++ (ψ i).toList.map f') H3)
    (k : ∀ D H', H D = none → Kp [] H H' → H' D = some (.lst (((List.range (n - lo).toNat).filterMap ψ).map f')) → Q (.ref D) H') : aCRngV g tt te vs σ Q (.ref p) H :=
  ⟨p, lo, n, rfl, hp, ⟨hl1, hl2, hn1, hn2⟩, w_lcR ψ hl1 hl2 hn1 hn2 hz hs k⟩
theorem w_lcE (ψ : Nat → α → Option β) {us : List α} {p : Addr} {j j' : Nat} (hp : H p = some (.lst (us.map f))) (hz : us.length < sizeLine)
    (hs : ∀ (D : Addr) (i : Nat) (u : α) (T : Addr) (acc : List V) (H' : Hp), H D = none → us[i]? = some u → Kp [] H H' → H' D = some (.lst acc) → acc.length < sizeLine → H' T = none → T ≠ D →
      wipe (((wipe σ vs).set j (some (.int (i : Int)))).set j' (some (f u))) vs = wipe σ vs ∧ tt (((wipe σ vs).set j (some (.int (i : Int)))).set j' (some (f u))) (upd H' T (.tup [.int (i : Int), f u])) fun b H3 =>
      if b = true then te (((wipe σ vs).set j (some (.int (i : Int)))).set j' (some (f u))) H3 (aKeep H D (acc ++ (ψ i u).toList.map f')) else cNx H D (acc ++ (ψ i u).toList.map f') H3)
    (k : ∀ D H', H D = none → Kp [] H H' → H' D = some (.lst ((us.zipIdx.filterMap fun q => ψ q.2 q.1).map f')) → Q (.ref D) H') : aCEnum K (gTup K 2 (gCons (gName j) (gCons (gName j') gNil))) tt te vs σ Q [.ref p] H := by
  refine ⟨p, _, rfl, SqL.of hp, fun D hD => ?_⟩
  refine ⟨fun i m H' => m = us.length - i ∧ i ≤ us.length ∧ cNx H D (((us.take i).zipIdx.filterMap fun q => ψ q.2 q.1).map f') H', ⟨us.length, by simp, Nat.zero_le _, ⟨Kp.refl.new hD, upd_same⟩⟩, ?_⟩
  rintro i m H' ⟨rfl, hi, q1, q2⟩
  have hpp := q1.at0 hp
  by_cases hlt : i < us.length
  · have hu : us[i]? = some us[i] := List.getElem?_eq_getElem hlt
    refine .inr ⟨⟨us.map f, f us[i], SqL.of hpp, by rw [List.getElem?_map, hu]; rfl⟩, cNx H D (((us.take (i + 1)).zipIdx.filterMap fun q => ψ q.2 q.1).map f'), fun H2 p' => ⟨us.length - (i + 1), by omega, rfl, hlt, p'⟩, fun x H2 y => ?_⟩
    obtain ⟨T, z, e1, e2, e3, y⟩ := y
    subst e1 e3
    have ez := y _ (SqL.of hpp)
    rw [List.getElem?_map, hu] at ez
    cases ez
    have hlen : (((us.take i).zipIdx.filterMap fun q => ψ q.2 q.1).map f').length < sizeLine := by
      have := List.length_filterMap_le (fun q : α × Nat => ψ q.2 q.1) (us.take i).zipIdx
      rw [List.length_zipIdx, List.length_take] at this
      rw [List.length_map]
      omega
    have hT : T ≠ D := Ne.symm (ne_of_none q2 e2)
    have e : us.take (i + 1) = us.take i ++ [us[i]] := by
      rw [List.take_succ, hu]; rfl
    have e2' : ((us.take (i + 1)).zipIdx.filterMap fun q => ψ q.2 q.1).map f' = ((us.take i).zipIdx.filterMap fun q => ψ q.2 q.1).map f' ++ (ψ i us[i]).toList.map f' := by
      rw [e, List.zipIdx_append, List.filterMap_append, List.map_append]
      have hl : (us.take i).length = i := by rw [List.length_take]; omega
      rw [hl]
      cases q : ψ i us[i] <;> simp [q]
    rw [e2']
    exact ⟨T, _, rfl, .inl (.inl upd_same), rfl, _, _, rfl, _, _, rfl, rfl, hs D i _ T _ H' hD hu q1 q2 hlen e2 hT⟩
  · have e : i = us.length := by omega
    subst e
    rw [List.take_length] at q2
    exact .inl ⟨⟨_, SqL.of hpp, by simp⟩, k D H' hD q1 q2⟩
end
/-! ### list(range(a, b)) -/
def rgI (a b : Int) : List Int := (List.range (b - a).toNat).map fun i : Nat => a + (i : Int)
theorem rgV_int (a b : Int) : rgV a b = (rgI a b).map V.int := by
  unfold rgV rgI
  rw [List.map_map]; rfl
theorem rgI_len (a b : Int) : (rgI a b).length = (b - a).toNat := by
  unfold rgI
  rw [List.length_map, List.length_range]
theorem rgI_get {a b : Int} {i : Nat} (h : i < (b - a).toNat) : (rgI a b)[i]? = some (a + (i : Int)) := by
  unfold rgI
  rw [List.getElem?_map, List.getElem?_range h]; rfl
def aRgL : R2 := fun x y H Q => ∃ i j, x = .int i ∧ y = .int j ∧ RgOk i j ∧ ∀ q, H q = none → Q (.ref q) (upd H q (.lst (rgV i j)))
section
variable {σ : St} {H : Hp} {Q : VK} {ta tb : TE} {i j : Int} {p q : Addr} {us : List Int}
theorem s_listRg (k : ta σ H fun x H1 => tb σ H1 fun y H2 => aRgL x y H2 Q) : tLstRg (tRg2 ta tb) σ H Q := by
  refine ?_
  unfold tLstRg tRg2
  have e : ∀ (x y : V) (H2 : Hp), aRgL x y H2 Q = ∃ i j, x = .int i ∧ y = .int j ∧ RgOk i j ∧ ∀ q, H2 q = none → Q (.ref q) (upd H2 q (.lst (rgV i j))) := fun _ _ _ => rfl
  exact k
theorem w_rgL (h : RgOk i j) (k : ∀ q, H q = none → Q (.ref q) (upd H q (.lst ((rgI i j).map V.int)))) : aRgL (.int i) (.int j) H Q := ⟨i, j, rfl, rfl, h, fun q hq => by rw [rgV_int]; exact k q hq⟩
theorem w_addL1 (hp : H p = some (.lst [.int i])) (hq : H q = some (.lst (us.map V.int))) (hl : 1 + us.length ≤ sizeLine) (k : ∀ r, H r = none → Q (.ref r) (upd H r (.lst ((i :: us).map V.int)))) : aAdd (.ref p) (.ref q) H Q :=
  w_addLM (us := [i]) (vs := us) (f := V.int) hp hq hl k
theorem w_addR1 (hp : H p = some (.lst (us.map V.int))) (hq : H q = some (.lst [.int i])) (hl : us.length + 1 ≤ sizeLine) (k : ∀ r, H r = none → Q (.ref r) (upd H r (.lst ((us ++ [i]).map V.int)))) : aAdd (.ref p) (.ref q) H Q :=
  w_addLM (us := us) (vs := [i]) (f := V.int) hp hq hl k
end
theorem log2_small {i : Int} (h : -1000000000000 ≤ i ∧ i ≤ 1000000000000) : i.natAbs.log2 < 1920 := by
  have h1 : i.natAbs < 2 ^ 40 := by omega
  by_cases z : i.natAbs = 0
  · rw [z]; decide
  · have := (Nat.log2_lt z).mpr h1
    omega
end Lk
namespace Lk
open PySem PySem.Spec PyProof.Rows L2 TL

/-! ### words that are numbers -/
def strI (i : Int) : Str := Str.ofString (toString i)
def isNumW (z : Str) : Bool := (Txt.isascii z && Txt.isdigit z) && (decide (z = "0") || (!decide ((⟨#[z.cps.toList.getD 0 default]⟩ : Str) = "0") && decide ((z.length : Int) ≤ 9)))
def numV (z : Str) : Int := (intText? z).getD 0
theorem ascii_digit : ∀ c < 128, Unicode.isDigit c = true → 48 ≤ c ∧ c ≤ 57 := by decide +kernel
theorem digit_ascii : ∀ c < 58, 48 ≤ c → Unicode.isDigit c = true := by decide +kernel
theorem num_digits {z : Str} (h1 : Txt.isascii z = true) (h2 : Txt.isdigit z = true) : NumText.AllDigits (tl z) ∧ tl z ≠ [] := by
  unfold Txt.isascii at h1
  unfold Txt.isdigit at h2
  rw [Bool.and_eq_true] at h2
  obtain ⟨h2, h3⟩ := h2
  refine ⟨fun c hc => ?_, fun e => ?_⟩
  · have m : c ∈ z.cps := Array.mem_toList_iff.mp hc
    have a := (Array.all_eq_true_iff_forall_mem.mp h1) c m
    have b := (Array.all_eq_true_iff_forall_mem.mp h3) c m
    exact ascii_digit c (by simpa using a) b
  · have : z.length = 0 := by rw [len_tl, e]; rfl
    rw [this] at h2
    simp at h2
theorem isNumW_parts {z : Str} (h : isNumW z = true) : Txt.isascii z = true ∧ Txt.isdigit z = true ∧ z.length ≤ 9 := by
  unfold isNumW at h
  rw [Bool.and_eq_true, Bool.and_eq_true] at h
  obtain ⟨⟨h1, h2⟩, h3⟩ := h
  refine ⟨h1, h2, ?_⟩
  rw [Bool.or_eq_true] at h3
  rcases h3 with h3 | h3
  · have : z = "0" := by simpa using h3
    rw [this]; decide
  · rw [Bool.and_eq_true] at h3
    have := h3.2
    simp at this
    omega
theorem num_text {z : Str} (h : isNumW z = true) : intText? z = some (numV z) ∧ 0 ≤ numV z ∧ z.length ≤ 640 := by
  obtain ⟨h1, h2, h3⟩ := isNumW_parts h
  obtain ⟨d, ne⟩ := num_digits h1 h2
  have e := PySem.intText_digits (x := z) d ne (by omega)
  unfold numV
  rw [e]
  refine ⟨rfl, ?_, by omega⟩
  show 0 ≤ ((NumText.digitsVal z.cps.toList : Nat) : Int)
  omega
/-! ### splits are not long -/
theorem spl_len (S : List Nat) : ∀ (l : List Nat) (k : Nat) (acc : List Nat), (spl S k acc l).length ≤ l.length + 1
  | [], k, acc => by rw [spl_nil]; simp
  | c :: r, 0, acc => by
    have h1 := spl_len S r (S.length - 1) []
    have h2 := spl_len S r 0 (acc ++ [c])
    cases h : pre S (c :: r) with
    | true => rw [spl_hit h]; simp; omega
    | false => rw [spl_miss h]; simp; omega
  | c :: r, k + 1, acc => by
    have h1 := spl_len S r k acc
    show (spl S k acc r).length ≤ _
    simp; omega
theorem spl_part_len (S : List Nat) : ∀ (l : List Nat) (k : Nat) (acc : List Nat), ∀ p ∈ spl S k acc l, p.length ≤ acc.length + l.length
  | [], k, acc => by rw [spl_nil]; simp
  | c :: r, 0, acc => by
    intro p hp
    cases h : pre S (c :: r) with
    | true =>
      rw [spl_hit h] at hp
      rcases List.mem_cons.mp hp with z | z
      · rw [z]; simp
      · have := spl_part_len S r (S.length - 1) [] p z
        simp at this ⊢; omega
    | false =>
      rw [spl_miss h] at hp
      have := spl_part_len S r 0 (acc ++ [c]) p hp
      simp at this ⊢; omega
  | c :: r, k + 1, acc => by
    intro p hp
    have := spl_part_len S r k acc p hp
    simp at this ⊢; omega
theorem spl_ne (S : List Nat) : ∀ (l : List Nat) (k : Nat) (acc : List Nat), spl S k acc l ≠ []
  | [], k, acc => by rw [spl_nil]; simp
  | c :: r, 0, acc => by
    cases h : pre S (c :: r) with
    | true => rw [spl_hit h]; simp
    | false => rw [spl_miss h]; exact spl_ne S r 0 _
  | c :: r, k + 1, acc => spl_ne S r k acc
section
variable {z y : Str}
theorem split_len (hy : tl y ≠ []) (hk : y.cps.all (· < 256) = true) : (Txt.split z y).length ≤ z.length + 1 := by
  have e := split_spl z y hy (kind_ok hk)
  have := spl_len (tl y) (tl z) 0 []
  rw [← e, List.length_map] at this
  rw [len_tl]; exact this
theorem split_part_len (hy : tl y ≠ []) (hk : y.cps.all (· < 256) = true) : ∀ p ∈ Txt.split z y, p.length ≤ z.length := by
  intro p hp
  have e := split_spl z y hy (kind_ok hk)
  have := spl_part_len (tl y) (tl z) 0 [] (tl p) (by rw [← e]; exact List.mem_map_of_mem hp)
  rw [len_tl, len_tl]
  simpa using this
theorem split_ne (hy : tl y ≠ []) (hk : y.cps.all (· < 256) = true) : Txt.split z y ≠ [] := by
  intro h
  have e := split_spl z y hy (kind_ok hk)
  rw [h] at e
  exact spl_ne _ _ _ _ e.symm
end
theorem tl_sp : tl " " = [32] := by decide +kernel
theorem tl_bar : tl " | " = [32, 124, 32] := by decide +kernel
theorem k_sp : (" " : Str).cps.all (· < 256) = true := by decide +kernel
theorem k_bar : (" | " : Str).cps.all (· < 256) = true := by decide +kernel
/-- the numbers of a part, if it is one -/
def numsOf (z : Str) : Option (List Int) := if (Txt.split z " ").all isNumW = true then some ((Txt.split z " ").map numV) else none
theorem numsOf_len {z : Str} {us : List Int} (h : numsOf z = some us) : 1 ≤ us.length ∧ us.length ≤ z.length + 1 ∧ ∀ u ∈ us, 0 ≤ u := by
  unfold numsOf at h
  split at h
  · rename_i q
    cases h
    rw [List.length_map]
    refine ⟨?_, split_len (by rw [tl_sp]; simp) k_sp, fun u hu => ?_⟩
    · have := split_ne (z := z) (y := " ") (by rw [tl_sp]; simp) k_sp
      cases e : Txt.split z " " with
      | nil => exact absurd e this
      | cons a l => simp
    · obtain ⟨w, hw, rfl⟩ := List.mem_map.mp hu
      exact (num_text (List.all_eq_true.mp q w hw)).2.1
  · cases h
/-! ### texts of numbers -/
theorem tl_strI {i : Int} (h : 0 ≤ i) : tl (strI i) = numL i.toNat := by
  have e := tl_num i.toNat
  rw [show ((i.toNat : Nat) : Int) = i by omega] at e
  exact e
theorem strI_len {i : Int} (h : 0 ≤ i) (h2 : i < 1000000000) : (strI i).length ≤ 9 := by
  rw [len_tl, tl_strI h]
  exact numL_len (by decide) (by omega)
theorem numL_head : ∀ (m n : Nat), n ≤ m → 0 < n → ∃ c r, numL n = c :: r ∧ c ≠ 48 := by
  intro m
  induction m with
  | zero => intro n h1 h2; omega
  | succ m ih =>
    intro n h1 h2
    by_cases h : n < 10
    · exact ⟨48 + n, [], numL_lt h, by omega⟩
    · obtain ⟨c, r, e, hc⟩ := ih (n / 10) (by omega) (by omega)
      exact ⟨c, r ++ [48 + n % 10], by rw [numL_step (by omega), e]; rfl, hc⟩
theorem isNum_strI {i : Int} (h : 0 ≤ i) (h2 : i < 1000000000) : isNumW (strI i) = true := by
  have et := tl_strI h
  have hl := strI_len h h2
  have hd := numL_digits i.toNat
  unfold isNumW
  rw [Bool.and_eq_true, Bool.and_eq_true]
  have hmem : ∀ c ∈ (strI i).cps, 48 ≤ c ∧ c ≤ 57 := fun c hc => hd c (by rw [← et]; exact Array.mem_toList_iff.mpr hc)
  have hne : 0 < (strI i).length := by
    rw [len_tl, et]
    exact List.length_pos_iff.mpr (numL_ne _)
  refine ⟨⟨?_, ?_⟩, ?_⟩
  · unfold Txt.isascii
    rw [Array.all_eq_true_iff_forall_mem]
    intro c hc
    have := hmem c hc
    simp; omega
  · unfold Txt.isdigit
    rw [Bool.and_eq_true]
    refine ⟨by simpa using hne, ?_⟩
    rw [Array.all_eq_true_iff_forall_mem]
    intro c hc
    have := hmem c hc
    exact digit_ascii c (by omega) this.1
  · rw [Bool.or_eq_true]
    by_cases z : i = 0
    · left
      subst z
      decide +kernel
    · right
      rw [Bool.and_eq_true]
      obtain ⟨c, r, e, hc⟩ := numL_head i.toNat i.toNat (Nat.le_refl _) (by omega)
      refine ⟨?_, by simp; omega⟩
      have e2 : (strI i).cps.toList = c :: r := by
        show tl (strI i) = _
        rw [et, e]
      rw [e2]
      simp only [List.getD_cons_zero]
      rw [Bool.not_eq_true', decide_eq_false_iff_not]
      intro q
      have q2 := congrArg tl q
      have q3 : tl ("0" : Str) = [48] := by decide +kernel
      rw [q3] at q2
      have q4 : tl (⟨#[c]⟩ : Str) = [c] := rfl
      rw [q4] at q2
      injection q2 with q5
      exact hc q5
theorem numV_strI {i : Int} (h : 0 ≤ i) (h2 : i < 1000000000) : numV (strI i) = i := by
  have e := int_num (n := i.toNat) (Nat.le_trans (numL_len (k := 9) (by decide) (by omega)) (by decide))
  rw [show ((i.toNat : Nat) : Int) = i by omega] at e
  unfold numV strI
  rw [e]; rfl
theorem no_sign {i : Int} {s : Nat} (h : 0 ≤ i) (hs : s < 48 ∨ 57 < s) : s ∉ tl (strI i) := by
  rw [tl_strI h]
  exact numL_free hs
theorem split_nums {us : List Int} (hne : us ≠ []) (h : ∀ u ∈ us, 0 ≤ u) : Txt.split (Txt.join " " (us.map strI)) " " = us.map strI := by
  refine split_join (s := 32) (S := []) tl_sp k_sp (by simpa using hne) fun p hp => ?_
  obtain ⟨u, hu, rfl⟩ := List.mem_map.mp hp
  exact no_sign (h u hu) (by omega)
theorem numsOf_join {us : List Int} (hne : us ≠ []) (h : ∀ u ∈ us, 0 ≤ u ∧ u < 1000000000) : numsOf (Txt.join " " (us.map strI)) = some us := by
  unfold numsOf
  rw [split_nums hne (fun u hu => (h u hu).1)]
  have q : (us.map strI).all isNumW = true := by
    rw [List.all_eq_true]
    intro w hw
    obtain ⟨u, hu, rfl⟩ := List.mem_map.mp hw
    exact isNum_strI (h u hu).1 (h u hu).2
  rw [if_pos q, List.map_map]
  congr 1
  conv => rhs; rw [← List.map_id us]
  apply List.map_congr_left
  intro u hu
  exact numV_strI (h u hu).1 (h u hu).2
/-- a bar is in no text of numbers -/
theorem joinL_free {s : Nat} {S : List Nat} (hS : s ∉ S) : ∀ {ps : List (List Nat)}, (∀ p ∈ ps, s ∉ p) → s ∉ joinL S ps
  | [], _ => List.not_mem_nil
  | [p], h => h p (List.mem_singleton.mpr rfl)
  | p :: q :: r, h => by
    show s ∉ p ++ (S ++ joinL S (q :: r))
    intro z
    rcases List.mem_append.mp z with z | z
    · exact h p List.mem_cons_self z
    · rcases List.mem_append.mp z with z | z
      · exact hS z
      · exact joinL_free hS (fun x hx => h x (List.mem_cons_of_mem _ hx)) z
theorem no_bar {us : List Int} (h : ∀ u ∈ us, 0 ≤ u) : 124 ∉ tl (Txt.join " " (us.map strI)) := by
  rw [join_eq, tl_join, tl_sp]
  refine joinL_free (by decide) fun p hp => ?_
  obtain ⟨w, hw, rfl⟩ := List.mem_map.mp hp
  obtain ⟨u, hu, rfl⟩ := List.mem_map.mp hw
  exact no_sign (h u hu) (by omega)
theorem pre_bar {p q : List Nat} (h : 124 ∉ p) (hq : ∀ c, q[0]? = some c → c ≠ 124) : ∀ i, i < p.length → pre [32, 124, 32] ((p ++ q).drop i) = false := by
  intro i hi
  cases e : pre [32, 124, 32] ((p ++ q).drop i) with
  | false => rfl
  | true =>
    exfalso
    unfold pre at e
    have e2 : ((p ++ q).drop i).take 3 = [32, 124, 32] := by simpa using e
    have e3 : ((p ++ q).drop i)[1]? = some 124 := by
      have : (((p ++ q).drop i).take 3)[1]? = some 124 := by rw [e2]; rfl
      rw [List.getElem?_take_of_lt (by omega)] at this
      exact this
    rw [List.getElem?_drop] at e3
    by_cases z : i + 1 < p.length
    · rw [List.getElem?_append_left z] at e3
      exact h (List.mem_of_getElem? e3)
    · rw [List.getElem?_append_right (by omega), show i + 1 - p.length = 0 by omega] at e3
      exact hq 124 e3 rfl
theorem spl_bar {p rest acc : List Nat} (h : 124 ∉ p) : spl [32, 124, 32] 0 acc (p ++ ([32, 124, 32] ++ rest)) = (acc ++ p) :: spl [32, 124, 32] 0 [] rest :=
  spl_part (by simp) (pre_bar h (fun c e => by simp at e; omega))
theorem spl_bar_last {p acc : List Nat} (h : 124 ∉ p) : spl [32, 124, 32] 0 acc p = [acc ++ p] := spl_last fun i hi => by
  have := pre_bar (q := []) h (fun c e => by simp at e) i hi
  rwa [List.append_nil] at this
theorem split_three {a b c : Str} (ha : 124 ∉ tl a) (hb : 124 ∉ tl b) (hc : 124 ∉ tl c) : Txt.split (a ++ " | " ++ b ++ " | " ++ c) " | " = [a, b, c] := by
  refine map_tl_inj ?_
  rw [split_spl _ _ (by rw [tl_bar]; simp) (kind_ok k_bar), tl_append, tl_append, tl_append, tl_append, tl_bar]
  rw [List.append_assoc, List.append_assoc, List.append_assoc, spl_bar ha, spl_bar hb, spl_bar_last hc]
  rfl
theorem join_three (a b c : Str) : Txt.join " | " [a, b, c] = a ++ " | " ++ b ++ " | " ++ c := by
  refine ext_tl ?_
  rw [join_eq, tl_join, tl_append, tl_append, tl_append, tl_append]
  show tl a ++ (tl " | " ++ (tl b ++ (tl " | " ++ tl c))) = _
  simp only [List.append_assoc]
theorem sum_len {ys : List Str} {c : Nat} (h : ∀ y ∈ ys, y.length ≤ c) : (ys.map (·.length)).sum ≤ ys.length * c := by
  induction ys with
  | nil => simp
  | cons y ys ih =>
    have h1 := h y List.mem_cons_self
    have h2 := ih (fun z hz => h z (List.mem_cons_of_mem _ hz))
    rw [List.map_cons, List.sum_cons, List.length_cons, Nat.succ_mul]
    omega
theorem joinL_len (S : List Nat) : ∀ ps : List (List Nat), (joinL S ps).length ≤ (ps.map (·.length)).sum + ps.length * S.length
  | [] => by simp [joinL]
  | [p] => by simp [joinL]
  | p :: q :: r => by
    have := joinL_len S (q :: r)
    show (p ++ (S ++ joinL S (q :: r))).length ≤ _
    simp only [List.length_append, List.map_cons, List.sum_cons, List.length_cons] at this ⊢
    rw [Nat.succ_mul]
    omega
theorem join_len {ys : List Str} {c : Nat} (h : ∀ y ∈ ys, y.length ≤ c) : (Txt.join " " ys).length ≤ ys.length * (c + 1) := by
  rw [len_tl, join_eq, tl_join, tl_sp]
  have h1 := joinL_len [32] (ys.map tl)
  have h2 := sum_len h
  have e : ((ys.map tl).map (·.length)) = ys.map (·.length) := by
    rw [List.map_map]
    apply List.map_congr_left
    intro y _
    show (tl y).length = y.length
    rw [len_tl]
  rw [e, List.length_map] at h1
  rw [Nat.mul_add]
  simp at h1 ⊢
  omega
theorem nums_len {us : List Int} (h : ∀ u ∈ us, 0 ≤ u ∧ u < 1000000000) : (Txt.join " " (us.map strI)).length ≤ us.length * 10 ∧ ((us.map strI).map (·.length)).sum ≤ us.length * 9 := by
  have q : ∀ y ∈ us.map strI, y.length ≤ 9 := by
    intro y hy
    obtain ⟨u, hu, rfl⟩ := List.mem_map.mp hy
    exact strI_len (h u hu).1 (h u hu).2
  have h1 := join_len q
  have h2 := sum_len q
  rw [List.length_map] at h1 h2
  exact ⟨h1, h2⟩
theorem len_app (a b : Str) : (a ++ b).length = a.length + b.length := by
  rw [len_tl, tl_append, List.length_append, ← len_tl, ← len_tl]
/-! ### lists of tuples -/
/-- xs holds, one by one, tuples of the rows vss -/
inductive Tps (H : Hp) : List V → List (List V) → Prop
  | nil : Tps H [] []
  | cons {r xs vs vss} : H r = some (.tup vs) → Tps H xs vss → Tps H (.ref r :: xs) (vs :: vss)
theorem Tps.kp {H H' : Hp} {xs : List V} {ps : List (List V)} (h : Tps H xs ps) (k : ∀ a o, (∃ vs, o = HO.tup vs) → H a = some o → H' a = some o) : Tps H' xs ps := by
  induction h with
  | nil => exact .nil
  | cons h1 _ ih => exact .cons (k _ _ ⟨_, rfl⟩ h1) ih
theorem Tps.len {H : Hp} {xs : List V} {ps : List (List V)} (h : Tps H xs ps) : xs.length = ps.length := by
  induction h with
  | nil => rfl
  | cons _ _ ih => simp [ih]
theorem Tps.snoc {H : Hp} {xs : List V} {ps : List (List V)} {r : Addr} {vs : List V} (h : Tps H xs ps) (e : H r = some (.tup vs)) : Tps H (xs ++ [.ref r]) (ps ++ [vs]) := by
  induction h with
  | nil => exact .cons e .nil
  | cons h1 _ ih => exact .cons h1 ih
theorem Tps.get {H : Hp} {xs : List V} {ps : List (List V)} (h : Tps H xs ps) : ∀ {k : Nat} {p : List V}, ps[k]? = some p → ∃ r, xs[k]? = some (.ref r) ∧ H r = some (.tup p) := by
  induction h with
  | nil => intro k p e; simp at e
  | cons h1 _ ih =>
    intro k p e
    cases k with
    | zero => simp at e; subst e; exact ⟨_, rfl, h1⟩
    | succ k => simpa using ih (by simpa using e)
theorem Tps.getX {H : Hp} {xs : List V} {ps : List (List V)} (h : Tps H xs ps) {k : Nat} {x : V} (e : xs[k]? = some x) : ∃ r p, x = .ref r ∧ ps[k]? = some p ∧ H r = some (.tup p) := by
  have hl : k < ps.length := by rw [← h.len]; exact (List.getElem?_eq_some_iff.mp e).1
  obtain ⟨r, h1, h2⟩ := h.get (List.getElem?_eq_getElem hl)
  rw [e] at h1
  cases h1
  exact ⟨r, _, rfl, List.getElem?_eq_getElem hl, h2⟩
theorem Tps.new {H : Hp} {xs : List V} {ps : List (List V)} {p : Addr} {o : HO} (h : Tps H xs ps) (hp : H p = none) : Tps (upd H p o) xs ps := h.kp fun a u _ e => by rw [upd_ne (ne_of_none e hp)]; exact e
/-- a list is changed -/
theorem Tps.mut {H : Hp} {xs ys : List V} {ps : List (List V)} {p : Addr} {o : HO} (h : Tps H xs ps) (hp : H p = some (.lst ys)) : Tps (upd H p o) xs ps := h.kp fun a u z e => by
  obtain ⟨vs, rfl⟩ := z
  rw [upd_ne (ne_of e hp (by intro q; cases q))]; exact e
theorem Tps.kp0 {H H' : Hp} {xs : List V} {ps : List (List V)} (h : Tps H xs ps) (k : Kp [] H H') : Tps H' xs ps := h.kp fun a o _ e => k a o e List.not_mem_nil
/-- lists, at most, are changed -/
theorem Tps.kpm {ms : List Addr} {H H' : Hp} {xs : List V} {ps : List (List V)} (h : Tps H xs ps) (k : Kp ms H H') (hm : ∀ m ∈ ms, ∃ ys, H m = some (.lst ys)) : Tps H' xs ps := h.kp fun a o z e => k a o e fun hz => by
  obtain ⟨vs, rfl⟩ := z
  obtain ⟨ys, e2⟩ := hm a hz
  rw [e] at e2; cases e2
/-! ### equal tuples -/
/-- flat rows as data -/
def datV : V → PyData
  | .int i => .int i
  | .str x => .str x
  | .bl b => .bool b
  | _ => .none
def flatRow (vs : List V) : Bool := vs.all fun v => match v with
  | .int _ => true
  | .str _ => true
  | .bl _ => true
  | .non => true
  | _ => false
theorem dpRow {K : PySem.W.Frag} {H : Hp} : ∀ {vs : List V}, flatRow vs = true → DpAll K H vs (vs.map datV)
  | [], _ => .nil
  | v :: vs, h => by
    unfold flatRow at h
    rw [List.all_cons, Bool.and_eq_true] at h
    refine .cons ?_ (dpRow h.2)
    cases v with
    | int i => exact .int i
    | str x => exact .str x
    | bl b => exact .bl b
    | non => exact .non
    | byt b => exact absurd h.1 Bool.false_ne_true
    | flt b => exact absurd h.1 Bool.false_ne_true
    | ref a => exact absurd h.1 Bool.false_ne_true
    | ty n => exact absurd h.1 Bool.false_ne_true
theorem eqRow : ∀ vs : List V, PyData.eqvAll (vs.map datV) (vs.map datV) = true
  | [] => rfl
  | v :: vs => by
    rw [List.map_cons, PyData.eqvAll, eqRow vs, Bool.and_true]
    cases v <;> simp [datV, PyData.eqv]
theorem sh_row {ds : List PyData} (h : ds.all (fun d => d.canLay0 && decide (d.depth ≤ 1)) = true) : SeqAt.shaped (.tuple ds) = true := by
  have a : ∀ ds : List PyData, ds.all (fun d => d.canLay0 && decide (d.depth ≤ 1)) = true → PyData.canLayAll0 ds = true ∧ PyData.depthAll ds ≤ 1 := by
    intro ds
    induction ds with
    | nil => intro _; exact ⟨by simp [PyData.canLayAll0], by simp [PyData.depthAll]⟩
    | cons d ds ih =>
      intro h
      simp only [List.all_cons, Bool.and_eq_true, decide_eq_true_eq] at h
      have := ih (by simpa using h.2)
      refine ⟨by simp [PyData.canLayAll0, h.1.1, this.1], by simp [PyData.depthAll]; omega⟩
  have := a ds h
  unfold SeqAt.shaped
  simp [PyData.canLay0, PyData.depth, this.1]
  omega
def okV : V → Bool
  | .int _ => true
  | .str x => PyData.strOk x
  | .bl _ => true
  | .non => true
  | _ => false
theorem shaped_row {vs : List V} (h : vs.all okV = true) : SeqAt.shaped (.tuple (vs.map datV)) = true := by
  refine sh_row ?_
  rw [List.all_map]
  rw [List.all_eq_true] at h ⊢
  intro v hv
  have := h v hv
  cases v <;> simp_all [okV, datV, PyData.canLay0, PyData.depth]
theorem flat_row {vs : List V} (h : vs.all okV = true) : flatRow vs = true := by
  unfold flatRow
  rw [List.all_eq_true] at h ⊢
  intro v hv
  have := h v hv
  cases v <;> simp_all [okV]
section
variable {K : PySem.W.Frag} {H : Hp} {Q : VK} {p q : Addr} {vs : List V}
theorem w_neT (hp : H p = some (.tup vs)) (hq : H q = some (.tup vs)) (hf : flatRow vs = true) (hs : SeqAt.shaped (.tuple (vs.map datV)) = true) (k : Q (.bl false) H) : aNe K (.ref p) (.ref q) H Q :=
  .inr ⟨_, _, .tup (.inl (.inl hp)) (dpRow hf), .tup (.inl (.inl hq)) (dpRow hf), hs, hs, by rw [PyData.eqv, eqRow]; exact k⟩
theorem w_eqT (hp : H p = some (.tup vs)) (hq : H q = some (.tup vs)) (hf : flatRow vs = true) (hs : SeqAt.shaped (.tuple (vs.map datV)) = true) (k : Q (.bl true) H) : aEq K (.ref p) (.ref q) H Q :=
  .inr ⟨_, _, .tup (.inl (.inl hp)) (dpRow hf), .tup (.inl (.inl hq)) (dpRow hf), hs, hs, by rw [PyData.eqv, eqRow]; exact k⟩
end
/-! ### from the end -/
theorem atI_neg {α : Type} {xs : List α} {i : Int} {v : α} (hi : i < 0) (hl : -i ≤ (xs.length : Int)) (h : xs[((xs.length : Int) + i).toNat]? = some v) : atI xs i = some v := by
  unfold atI ixN
  rw [if_neg (by omega), if_pos (by omega), show i + (xs.length : Int) = (xs.length : Int) + i by omega]
  exact h
theorem w_ixNeg {α : Type} [Inhabited α] {f : α → V} {us : List α} {K : PySem.W.Frag} {H : Hp} {Q : VK} {p : Addr} {i : Int} (hp : H p = some (.lst (us.map f))) (hi : i < 0) (hl : -i ≤ (us.length : Int)) (k : Q (f (us.getD ((us.length : Int) + i).toNat default)) H) : rIx K (.ref p) (.int i) H Q :=
  .inl ⟨p, _, _, _, rfl, rfl, SqL.of hp, atI_neg hi (by simpa using hl) (by
    rw [List.length_map, List.getElem?_map, List.getD_eq_getElem?_getD, List.getElem?_eq_getElem (by omega)]; rfl), k⟩
/-! ### members: texts, truth values -/
section
variable {p : Addr} {H : Hp} {Q : VK} {K : PySem.W.Frag}
theorem eqV_str (a b : Str) : eqV (.str a) (.str b) = decide (a = b) := by
  have : eqV (.str a) (.str b) = (a == b) := rfl
  rw [this]
  by_cases z : a = b <;> simp [z]
theorem eqV_bl (a b : Bool) : eqV (.bl a) (.bl b) = decide (a = b) := by cases a <;> cases b <;> rfl
theorem inV_str {x : Str} : ∀ us : List Str, inV (.str x) (us.map V.str) = decide (x ∈ us)
  | [] => by simp [inV]
  | u :: us => by
    have h := inV_str (x := x) us
    unfold inV at h ⊢
    rw [List.map_cons, List.any_cons, h, eqV_str]
    by_cases z : u = x
    · simp [z]
    · have z2 : ¬ x = u := fun q => z q.symm
      simp [z, z2]
theorem inV_bl {x : Bool} : ∀ us : List Bool, inV (.bl x) (us.map V.bl) = decide (x ∈ us)
  | [] => by simp [inV]
  | u :: us => by
    have h := inV_bl (x := x) us
    unfold inV at h ⊢
    rw [List.map_cons, List.any_cons, h, eqV_bl]
    by_cases z : u = x
    · simp [z]
    · have z2 : ¬ x = u := fun q => z q.symm
      simp [z, z2]
theorem flat_str : ∀ us : List Str, (us.map V.str).all flatV = true
  | [] => rfl
  | u :: us => by rw [List.map_cons, List.all_cons, flat_str us]; rfl
theorem flat_bl : ∀ us : List Bool, (us.map V.bl).all flatV = true
  | [] => rfl
  | u :: us => by rw [List.map_cons, List.all_cons, flat_bl us]; rfl
theorem w_inS {x : Str} {us : List Str} (hp : H p = some (.lst (us.map V.str))) (k : Q (.bl (decide (x ∈ us))) H) : rIn K false (.str x) (.ref p) H Q :=
  ⟨p, _, rfl, .inl (SqL.of hp), rfl, flat_str us, by rw [inV_str]; exact k⟩
theorem w_notInS {x : Str} {us : List Str} (hp : H p = some (.lst (us.map V.str))) (k : Q (.bl (!decide (x ∈ us))) H) : rIn K true (.str x) (.ref p) H Q :=
  ⟨p, _, rfl, .inl (SqL.of hp), rfl, flat_str us, by rw [inV_str]; exact k⟩
theorem w_inB {x : Bool} {us : List Bool} (hp : H p = some (.lst (us.map V.bl))) (k : Q (.bl (decide (x ∈ us))) H) : rIn K false (.bl x) (.ref p) H Q :=
  ⟨p, _, rfl, .inl (SqL.of hp), rfl, flat_bl us, by rw [inV_bl]; exact k⟩
theorem w_notInB {x : Bool} {us : List Bool} (hp : H p = some (.lst (us.map V.bl))) (k : Q (.bl (!decide (x ∈ us))) H) : rIn K true (.bl x) (.ref p) H Q :=
  ⟨p, _, rfl, .inl (SqL.of hp), rfl, flat_bl us, by rw [inV_bl]; exact k⟩
end
end Lk
namespace Lk
open PySem PySem.Spec PyProof.Rows L2 TL

/-! ### is, of truth values -/
theorem vbl_beq (a b : Bool) : ((Value.bool a) == (Value.bool b)) = decide (a = b) := by
  by_cases e : a = b
  · subst e
    exact (beq_self_eq_true (Value.bool a)).trans (decide_eq_true (p := a = a) rfl).symm
  · exact (beq_eq_false_iff_ne.mpr fun z => e (Value.bool.inj z)).trans (decide_eq_false e).symm
section
variable {X : Cx}
theorem op_isBl : OpR X (compareOp .Is) (fun x y H Q => ∃ a b, x = .bl a ∧ y = .bl b ∧ Q (.bl (decide (a = b))) H) := by
  intro pins s σ H x y v u Q I rx ry h
  obtain ⟨a, b, rfl, rfl, q⟩ := h
  cases (show v = Value.bool a from rx)
  cases (show u = Value.bool b from ry)
  exact wpAny_is_plain rfl (fin_bl I q (vbl_beq a b).symm)
theorem op_notBl : OpR X (compareOp .IsNot) (fun x y H Q => ∃ a b, x = .bl a ∧ y = .bl b ∧ Q (.bl (!decide (a = b))) H) := by
  intro pins s σ H x y v u Q I rx ry h
  obtain ⟨a, b, rfl, rfl, q⟩ := h
  cases (show v = Value.bool a from rx)
  cases (show u = Value.bool b from ry)
  exact wpAny_isNot_plain rfl (fin_bl I q (congrArg not (vbl_beq a b).symm))
end
def aIsB : R2 := fun x y H Q => ∃ a b, x = .bl a ∧ y = .bl b ∧ Q (.bl (decide (a = b))) H
def aNotB : R2 := fun x y H Q => ∃ a b, x = .bl a ∧ y = .bl b ∧ Q (.bl (!decide (a = b))) H
theorem o_isB {X : Cx} : OpR X (compareOp .Is) aIsB := op_isBl
theorem o_notB {X : Cx} : OpR X (compareOp .IsNot) aNotB := op_notBl
theorem w_isB {a b : Bool} {H : Hp} {Q : VK} (k : Q (.bl (decide (a = b))) H) : aIsB (.bl a) (.bl b) H Q := ⟨a, b, rfl, rfl, k⟩
theorem w_notB {a b : Bool} {H : Hp} {Q : VK} (k : Q (.bl (!decide (a = b))) H) : aNotB (.bl a) (.bl b) H Q := ⟨a, b, rfl, rfl, k⟩
/-! ### tuple(list) -/
def rTupOf (K : PySem.W.Frag) : List V → Hp → VK → Prop := fun xs H Q => ∃ p ys, xs = [.ref p] ∧ ((SqL K H p ys ∧ ∀ l, H l = none → Q (.ref l) (upd H l (.tup ys))) ∨ (SqT K H p ys ∧ Q (.ref p) H))
theorem b_tuple {X : Cx} : CallR X (.type "tuple") (rTupOf X.K) := call_tuple_of
theorem w_tupOf {K : PySem.W.Frag} {H : Hp} {p : Addr} {ys : List V} {Q : VK} (hp : H p = some (.lst ys)) (k : ∀ l, H l = none → Q (.ref l) (upd H l (.tup ys))) : rTupOf K [.ref p] H Q := ⟨p, ys, rfl, .inl ⟨SqL.of hp, k⟩⟩
/-! ### isinstance(o, C) of an own class -/
def rIsC (C : Addr) : List V → Hp → VK → Prop := fun xs H Q => ∃ a dx fs, xs = [.ref a, .ref C] ∧ H a = some (.ins C dx fs) ∧ Q (.bl true) H
theorem b_isC {X : Cx} {C : Addr} (c : C8.InsC X.K C) : CallR X (.builtin "isinstance") (rIsC C) := C8.call_isC c
theorem w_isC {C a dx : Addr} {fs : List (Str × V)} {H : Hp} {Q : VK} (hp : H a = some (.ins C dx fs)) (k : Q (.bl true) H) : rIsC C [.ref a, .ref C] H Q := ⟨a, dx, fs, rfl, hp, k⟩
/-! ### values as data -/
section
variable {K : PySem.W.Frag} {H : Hp} {n m : Nat}
def DV (K : PySem.W.Frag) (H : Hp) (n : Nat) (v : V) (d : PyData) : Prop := Dp K H v d ∧ d.canLay0 = true ∧ d.depth ≤ n
def DvAll (K : PySem.W.Frag) (H : Hp) (n : Nat) (vs : List V) (ds : List PyData) : Prop := DpAll K H vs ds ∧ PyData.canLayAll0 ds = true ∧ PyData.depthAll ds ≤ n
theorem DV.int (i : Int) : DV K H n (.int i) (.int i) := ⟨.int i, by simp [PyData.canLay0], by simp [PyData.depth]⟩
theorem DV.bl (b : Bool) : DV K H n (.bl b) (.bool b) := ⟨.bl b, by simp [PyData.canLay0], by simp [PyData.depth]⟩
theorem DV.str {x : Str} (h : PyData.strOk x = true) : DV K H n (.str x) (.str x) := ⟨.str x, by simp [PyData.canLay0, h], by simp [PyData.depth]⟩
theorem DV.non : DV K H n .non .none := ⟨.non, by simp [PyData.canLay0], by simp [PyData.depth]⟩
theorem DvAll.nil : DvAll K H n [] [] := ⟨.nil, by simp [PyData.canLayAll0], by simp [PyData.depthAll]⟩
theorem DvAll.cons {v : V} {vs : List V} {d : PyData} {ds : List PyData} (h1 : DV K H n v d) (h2 : DvAll K H n vs ds) : DvAll K H n (v :: vs) (d :: ds) :=
  ⟨.cons h1.1 h2.1, by simp [PyData.canLayAll0, h1.2.1, h2.2.1], by have := h1.2.2; have := h2.2.2; simp [PyData.depthAll]; omega⟩
theorem DV.tup {p : Addr} {vs : List V} {ds : List PyData} (hp : H p = some (.tup vs)) (h : DvAll K H n vs ds) : DV K H (n + 1) (.ref p) (.tuple ds) :=
  ⟨.tup (.inl (.inl hp)) h.1, by simp [PyData.canLay0, h.2.1], by have := h.2.2; simp [PyData.depth]; omega⟩
theorem DV.lst {p : Addr} {vs : List V} {ds : List PyData} (hp : H p = some (.lst vs)) (h : DvAll K H n vs ds) : DV K H (n + 1) (.ref p) (.list ds) :=
  ⟨.lst (SqL.of hp) h.1, by simp [PyData.canLay0, h.2.1], by have := h.2.2; simp [PyData.depth]; omega⟩
theorem DvAll.row : ∀ {vs : List V}, vs.all okV = true → DvAll K H n vs (vs.map datV)
  | [], _ => .nil
  | v :: vs, h => by
    rw [List.all_cons, Bool.and_eq_true] at h
    refine .cons ?_ (DvAll.row h.2)
    cases v with
    | int i => exact .int i
    | str x => exact .str h.1
    | bl b => exact .bl b
    | non => exact .non
    | byt b => exact absurd h.1 Bool.false_ne_true
    | flt b => exact absurd h.1 Bool.false_ne_true
    | ref a => exact absurd h.1 Bool.false_ne_true
    | ty n => exact absurd h.1 Bool.false_ne_true
theorem DV.shaped {v : V} {d : PyData} (h : DV K H n v d) (hn : n ≤ 64) : SeqAt.shaped d = true := by
  unfold SeqAt.shaped
  rw [h.2.1, Bool.true_and]
  exact decide_eq_true (Nat.le_trans h.2.2 hn)
theorem w_eqV {x y : V} {d e : PyData} {Q : VK} (h1 : DV K H 10 x d) (h2 : DV K H 10 y e) (k : Q (.bl (PyData.eqv d e)) H) : aEq K x y H Q :=
  .inr ⟨d, e, h1.1, h2.1, h1.shaped (by decide), h2.shaped (by decide), k⟩
end
/-! ### a comprehension over a list whose turns make things -/
section
variable {σ : St} {H : Hp} {g : TG} {tt : TT} {te : TE} {K : PySem.W.Frag} {vs : List Nat} {Q : VK} {α : Type} {f : α → V}
theorem w_lcMG {us : List α} {p : Addr} (J : Addr → Nat → List V → Hp → Prop) (hp : H p = some (.lst (us.map f)))
    (h0 : ∀ D, H D = none → J D 0 [] (upd H D (.lst [])))
    (hs : ∀ (D : Addr) (i : Nat) (u : α) (acc : List V) (H' : Hp), H D = none → us[i]? = some u → acc.length ≤ i → Kp [] H H' → H' D = some (.lst acc) → J D i acc H' → g (f u) (wipe σ vs) H' fun σ2 H2 => wipe σ2 vs = wipe σ vs ∧ tt σ2 H2 fun b H3 =>
      if b = true then te σ2 H3 (gKeep [] H D (J D) (i + 1)) else gNx [] H D (J D) (i + 1) H3)
    (k : ∀ D acc H', H D = none → acc.length ≤ us.length → Kp [] H H' → H' D = some (.lst acc) → J D us.length acc H' → Q (.ref D) H') : aCList K g tt te vs σ Q (.ref p) H :=
  ⟨p, rfl, ⟨_, SqL.of hp⟩, fun D hD => lc_list (K := K) (a := p) (xs := us.map f) (fun i => gNx [] H D (J D) i) ⟨[], Nat.zero_le _, Kp.refl.new hD, upd_same, h0 D hD⟩
    (fun i H' hi q => by
      obtain ⟨acc, _, q2, _⟩ := q
      exact SqL.of (q2.at0 hp)) (fun i x H' hx q => by
      rw [List.getElem?_map] at hx
      cases e : us[i]? with
      | none => rw [e] at hx; cases hx
      | some u =>
        rw [e] at hx
        cases hx
        obtain ⟨acc, q1, q2, q3, q4⟩ := q
        exact hs D i u acc H' hD e q1 q2 q3 q4) (fun H' q => by
      obtain ⟨acc, q1, q2, q3, q4⟩ := q
      rw [List.length_map] at q1 q4
      exact k D acc H' hD q1 q2 q3 q4)⟩
end
/-! ### unlike data -/
theorem eqvAll_len : ∀ {ds es : List PyData}, ds.length ≠ es.length → PyData.eqvAll ds es = false
  | [], [], h => absurd rfl h
  | [], e :: es, _ => by simp [PyData.eqvAll]
  | d :: ds, [], _ => by simp [PyData.eqvAll]
  | d :: ds, e :: es, h => by
    have := eqvAll_len (ds := ds) (es := es) (by simpa using h)
    simp [PyData.eqvAll, this]
theorem strI_ok {i : Int} (h : -1 ≤ i) : PyData.strOk (strI i) = true := by
  by_cases z : i = -1
  · subst z; decide +kernel
  · have hd := numL_digits i.toNat
    unfold PyData.strOk
    rw [Array.all_eq_true_iff_forall_mem]
    intro c hc
    have := hd c (by rw [← tl_strI (show 0 ≤ i by omega)]; exact Array.mem_toList_iff.mpr hc)
    simp; omega
/-! ### sums, all -/
section
variable {K : PySem.W.Frag} {H : Hp} {Q : VK} {p : Addr}
theorem w_sum {ns : List Int} (hp : H p = some (.lst (ns.map V.int))) (k : Q (.int ns.sum) H) : rSum K [.ref p] H Q := ⟨p, ns, rfl, SqL.of hp, k⟩
theorem w_all {bs : List Bool} (hp : H p = some (.lst (bs.map V.bl))) (k : Q (.bl (bs.all id)) H) : rAll K [.ref p] H Q := ⟨p, bs, rfl, SqL.of hp, k⟩
end
theorem w_inIT {i : Int} {us : List Int} {p : Addr} {H : Hp} {Q : VK} {K : PySem.W.Frag} (hp : H p = some (.tup (us.map V.int))) (k : Q (.bl (decide (i ∈ us))) H) : rIn K false (.int i) (.ref p) H Q :=
  ⟨p, _, rfl, .inr (.inl (.inl hp)), rfl, flat_int us, by rw [inV_int]; exact k⟩
end Lk
namespace Lk
open PySem PySem.Spec PyProof.Rows L2

/-! ### methods and comprehensions while an exception is handled -/
section
variable {X : Cx} {k : Nat} {f C : Addr} {ps : List Str} {sp : Sp} {m : Str} {pos apos : Pos} {e o : Expr} {es : List Expr} {ta : TE} {t : TA}
theorem pe_methHS {pl : Sem Bool} (G : FnHA X.prog X.w X.K X.mg X.base k f ps sp) (hr : L2H.RoomH k X.A) (hc : L2H.HotC X) (c : Cls X.K C) (hm : Meth X.K C m f) (he : PE X o ta) (ha : PA X (e :: es) t)
    (hst : starEach (e :: es) X.env = (false, eval e X.env) :: starEach es X.env := by rfl) (hpl : (backTo pos (starEach es X.env)).any (·.1) = false := by rfl) (ht : MTree X pl o m (e :: es) pos apos := by rfl) :
    PE X (.Call (.Attribute o m apos) (e :: es) [] pos) (tMethS X.K C m sp (fun _ => E0) ta t) := by
  obtain ⟨fd, F, b⟩ := G
  exact L2H.pe_methH (pl := pl) he c hm F hr hc b (fun σ => L2N.passAt takes0 σ) ha hst hpl ht
theorem pe_methHS0 {pl : Sem Bool} (G : FnHA X.prog X.w X.K X.mg X.base k f ps sp) (hr : L2H.RoomH k X.A) (hc : L2H.HotC X) (c : Cls X.K C) (hm : Meth X.K C m f) (he : PE X o ta) (ht : MTree X pl o m [] pos apos := by rfl) :
    PE X (.Call (.Attribute o m apos) [] [] pos) (tMethS X.K C m sp (fun _ => E0) ta tNil) := by
  obtain ⟨fd, F, b⟩ := G
  refine ⟨fun pins s σ H Q I h => ?_⟩
  refine PySem.W.methodCall_KW (pl := pl) (thn (he.run pins s σ H _ I h) fun u s1 ⟨x, H1, I1, rx, a, dx, fs, ex, ea, l, q⟩ => ?_) ht
  subst ex
  obtain rfl : u = Value.ref a := rx
  refine getmeth_ok I1 ea c hm l ?_
  exact PySem.W.callWith_K0 (first := [.ref a]) I1.kIn hm.kp (L2H.run_fnH (E := fun _ => E0) (us := [.ref a]) (vs := [.ref a]) F hr hc b (L2N.passAt takes0 σ) I1 (.cons rfl .nil) q)
end
/-- a list's iterator comes to its end, the handled exception standing aside -/
theorem list_stop {prog : Program} {w : World} {A : Around} {E : Value → Shared → Prop} {s : Shared} {it l x1 : Addr} {i : Nat} {items : Array Value} {Q : Option Value → Shared → Prop} (hot : HotX.HotAt A x1 s.heap) (hne : x1 ≠ it) (hit : s.heap.IsListIter it l i) (hl : s.heap.IsList l items) (hx : items[i]? = none)
    (hQ : ∀ h', (∀ b o, b ≠ it → s.heap.get? b = some o → h'.get? b = some o) → Q none { s with heap := h' }) : wpAny (model prog w) A (pyNext (.ref it)) Q E s := by
  obtain ⟨oi, hoi, hci, hdi⟩ := id hit
  obtain ⟨ol, hol, _, nl, hdl⟩ := hl
  obtain ⟨hh, o1, vs1, h1, d1, c1⟩ := hot
  unfold pyNext
  refine wpAny_bind (wpAny_attempt (wpAny_callSpecial?_slot (name := Str.ofString "__next__") hit.typeIs slot_listiter_next
    (wpAny_call_entry slot_listiter_next hit.typeIs entry_listiter_next ?_ (args_listiter_next _))))
  show wpAny _ _ (field (.ref it) 0 >>= _) _ _ s
  refine wpAny_bind (wpAny_field hoi hdi (x := .ref l) rfl ?_)
  show wpAny _ _ (if (Value.ref l == Value.none) = true then _ else _) _ _ s
  rw [if_neg (show ¬ ((Value.ref l == Value.none) = true) from Bool.false_ne_true)]
  show wpAny _ _ (field (.ref it) 1 >>= _) _ _ s
  refine wpAny_bind (wpAny_field hoi hdi (x := .int i 0) rfl ?_)
  show wpAny _ _ (seqItems? (.ref l) >>= _) _ _ s
  refine wpAny_bind (wpAny_seqItems hol hdl ?_)
  simp only [Int.toNat_natCast, hx]
  refine wpAny_bind (wpAny_rule (wpAny_bind (wpAny_setField hoi hdi (by simp) ?_)))
  show wpAny _ _ (newExc (.type "StopIteration") [] >>= _) _ _ _
  refine wpAny_bind ?_
  simp only [newExc, newTuple]
  refine wpAny_bind (wpAny_newObj_type ?_ (by size_fits))
  refine wpAny_bind (m := firstArgMember _ _) (wpAny_of_eq (a := Value.none) (by first | rfl | (simp only [firstArgMember]; rfl)) ?_)
  refine wpAny_newObj_type ?_ (by size_fits)
  have q1 := (Heap.get?_update_other s.heap (Obj.mapFields (·.setIfInBounds 0 .none)) (Ne.symm hne)).trans h1
  refine HotX.raiseNew_hot ⟨hh, o1, vs1, Heap.get?_push_of_some _ (Heap.get?_push_of_some _ q1), d1, c1⟩ (Nat.ne_of_lt (Heap.lt_size (Heap.get?_push_of_some _ q1))) (Heap.get?_push_size _ rfl) rfl (by first | (simp; done) | (simp; omega) | (simp only [Array.size_append]; simp; omega)) ?_
  refine wpAny_bind (wpAny_isInstance (T := "StopIteration") (b := true) ⟨_, Heap.get?_update_self _ (Heap.get?_push_size _ rfl) rfl, rfl⟩ isSubtype_stop ?_)
  refine wpAny_pure (hQ _ fun b u hb e => ?_)
  have q2 := (Heap.get?_update_other s.heap (Obj.mapFields (·.setIfInBounds 0 .none)) (Ne.symm hb)).trans e
  rw [Heap.get?_update_other _ _ (Nat.ne_of_gt (Heap.lt_size (Heap.get?_push_of_some _ q2)))]
  exact Heap.get?_push_of_some _ (Heap.get?_push_of_some _ q2)
open L2H in
theorem turn_listH {P : Program} {w : World} {K : PySem.W.Frag} {tg : Expr} (a it : Addr) : TurnH P w K tg (Itl K a) [it] it (fun i h => h.IsListIter it a i) := by
  have T : Turn P w K tg (Itl K a) [it] it (fun i h => h.IsListIter it a i) := turn_list a it
  refine ⟨T.mem, T.obj, T.keep, ?_, ?_, T.self⟩
  · intro X hP hw hK hc i pins s σ H E I hf st hg
    subst hP hw hK
    obtain ⟨xs, x, hq, hx⟩ := hg
    obtain ⟨its, rv, p, hz⟩ := I.list hq
    obtain ⟨u, hu, ru⟩ := rv.get hx
    obtain ⟨f0, f1, f2, f3, f4, f5⟩ := hf it (by simp)
    refine wpAny_pyNext_list_item st p.isList (x := u) (by simpa using hu) fun h' st' sb => ⟨u, rfl, ?_⟩
    have I1 := I.turned (t' := s.toks) (fun b o hb e => (sb.2 b hb).trans e) f0 f1 f3 f4 f5
    obtain ⟨oi, e, c, d⟩ := id st'
    exact go_of (s := { s with heap := h' }) e c d (by decide) ⟨x, H, I1, ru, ⟨rfl, fun ys hy => by rw [I.list_inj hy hq]; exact hx⟩, st', fun b hb => (hf b hb).1⟩
  · intro X hP hw hK hc i pins s σ H E I hf st hg
    subst hP hw hK
    obtain ⟨xs, hq, hx⟩ := hg
    obtain ⟨its, rv, p, hz⟩ := I.list hq
    have hl := rv.length
    obtain ⟨f0, f1, f2, f3, f4, f5⟩ := hf it (by simp)
    obtain ⟨x1, ⟨hh, v1, e1, c1⟩, hp⟩ := hc
    have hp := List.mem_append_left pins hp
    exact list_stop ⟨hh, x1.2, v1, (I.pin x1 hp).1, e1, c1⟩ (f5 x1 hp) st p.isList (by simp; omega) fun h' eb => ⟨rfl, I.turned (t' := s.toks) eb f0 f1 f3 f4 f5⟩
section
variable {X : Cx} {tg : Expr}
theorem pi_listH {l : Expr} {tl : TE} (hl : PE X l tl) : L2H.PIH X tg l (iList X.K tl) := by
  refine ⟨fun pins s σ H R I h => thn (hl.run pins s σ H _ I h) fun v s1 ⟨x, H1, I1, r1, a, e, ⟨xs, hq⟩, q⟩ => ?_⟩
  subst e
  cases r1
  obtain ⟨its, rv, p, hz⟩ := I1.list hq
  refine wpAny_pyIter_list p.isList ⟨s1.heap.objs.size, [s1.heap.objs.size], _, _, H1, rfl, I1.kept (t' := s1.toks) fun b o e => Heap.get?_push_of_some _ e, turn_listH a _, ⟨_, Heap.get?_push_size _ rfl, rfl, rfl⟩, fun b hb => ?_, q⟩
  rw [List.mem_singleton.mp hb]
  exact I1.fpOk (Nat.le_refl _) (I1.hok.fresh (Nat.le_refl _))
theorem pi_range2H {a b : Expr} {ta : TA} {p pos : Pos} (hg : Gl X "range") (hm : X.mg "range" = none) (ha : PA X [a, b] ta) (hs : starEach [a, b] X.env = [(false, eval a X.env), (false, eval b X.env)] := by rfl) (hs2 : starEach [b] X.env = [(false, eval b X.env)] := by rfl) :
    L2H.PIH X tg (.Call (.Name "range" p) [a, b] [] pos) (iRng2 ta) := by
  refine ⟨fun pins s σ H R I h => ?_⟩
  refine Call_ (ld_blt I hg hm boot_range (PyProof.Rows.callWith_type1 (thn (ha.run pos pins s σ H _ I h) fun us s1 ⟨vs, H1, I1, r1, q1⟩ => ?_) (by rw [hs, hs2]) (by rw [hs2]; rfl)))
  obtain ⟨i, j, e, ⟨q1, q2, q3, q4⟩, q⟩ := q1
  subst e
  cases r1 with
  | cons r rr =>
    cases rr with
    | cons r' rr =>
      cases rr
      obtain ⟨t, rfl⟩ := r
      obtain ⟨t', rfl⟩ := r'
      exact call_range_2 (L2H.range_itH I1 q1 q2 q3 q4 q)
end
/-- the block of a comprehension that keeps the pins of the def -/
abbrev blkH (X : Cx) (s : Shared) (H : Hp) (scope : Scope) (cenv : Env) (fp : List Addr) : Cx := { X.blk s H scope cenv fp with pn := X.pn }
abbrev newC (s : Shared) (scope : Scope) (env : Env) : Env := compEnvC scope (cellsFrom (s.heap.objs.size + 1) scope.names (cloFrom env.cells scope.names [])) s.heap.objs.size env
theorem blkH_start {X : Cx} {pins : List (Addr × Obj)} {σ : St} {H : Hp} {s : Shared} {scope : Scope} {own : List (Str × Nat)} {fp : List Addr} (I : Inv X pins σ H s) (ok : BlkOk X.N X.env.scope scope own) (hN : X.N.Nodup) (hfp : ∀ b ∈ fp, FpOk X pins H b ∧ b < s.heap.objs.size) :
    Inv (blkH X s H scope (newC s scope X.env) fp) [] (wipe σ (own.map (·.2))) H { s with heap := pushCells (s.heap.push { cls := .type "dict", data := .dict #[] }) scope.names } := by
  have J := block_start I ok hN hfp
  have O := J.ok
  refine ⟨⟨O.mod, O.kind, O.glob, O.blt, O.above, O.inj, O.has, O.cab, O.hd, O.frames, O.stk, O.exf, O.bs, O.bsz, O.noex, O.exfs, O.funs, O.frf⟩, J.os, J.bare, J.base, J.loc, J.cell, J.free, J.freeC, fun p hp => ?_, J.hok, J.len⟩
  have hp : p ∈ X.pn := by simpa using hp
  obtain ⟨p1, p2, p3, p4, p5⟩ := I.pin p (List.mem_append_left _ hp)
  refine ⟨pushCells_keeps _ _ _ _ (Heap.get?_push_of_some _ p1), p2, Nat.ne_of_lt (Heap.lt_size p1), fun z => ?_, p5⟩
  rcases List.mem_cons.mp (I.stkSub p.1 z) with y | y
  · exact p3 y
  · exact p4 y
/-- the block's context still bears the handled exception -/
theorem hotBlk {X : Cx} {s : Shared} {H : Hp} {scope : Scope} {cenv : Env} {fp : List Addr} (hc : L2H.HotC X) : L2H.HotC (blkH X s H scope cenv fp) := hc
section
variable {X : Cx} {elt tg iter : Expr} {ifs : List Expr} {scope : Scope} {own : List (Str × Nat)} {pos pos' : Pos} {wi : TI} {g : TG} {tt : TT} {te : TE}
/-- the turns of the block's loop -/
theorem lcH_loop {s : Shared} {σ : St} {H : Hp} {Q : VK} {R : Result → Shared → Prop} {fp : List Addr} {it D : Addr} {tn : Nat → Heap → Prop} {J : It} {cenv : Env} {s' : Shared} (hc : L2H.HotC X)
    (T : L2H.TurnH X.prog X.w X.K tg J fp it tn) (I0 : Inv (blkH X s H scope cenv fp) [] (wipe σ (own.map (·.2))) H s') (st0 : tn 0 s'.heap) (free0 : ∀ b ∈ fp, H b = none)
    (pg : PG (blkH X s H scope cenv fp) tg g) (pt : PTs (blkH X s H scope cenv fp) ifs tt) (pe : PE (blkH X s H scope cenv fp) elt te) (far : ∀ b ∈ fp, ∀ p ∈ X.pn, p.1 ≠ b)
    {W : Nat → Nat → Hp → Prop} {m0 : Nat} (w0 : W 0 m0 H)
    (turn : ∀ i m H, W i m H → (J.stop i H ∧ Q (.ref D) H) ∨ (J.go i H ∧ ∃ Nx : Hp → Prop, (∀ H', Nx H' → ∃ m', m' < m ∧ W (i + 1) m' H') ∧ ∀ x H', J.yld i H x H' → g x (wipe σ (own.map (·.2))) H' fun σ2 H2 => wipe σ2 (own.map (·.2)) = wipe σ (own.map (·.2)) ∧ tt σ2 H2 fun b H3 =>
      if b = true then te σ2 H3 fun y H4 => ∃ acc, H4 D = some (.lst acc) ∧ acc.length < sizeLine ∧ Nx (upd H4 D (.lst (acc ++ [y]))) else Nx H3))
    (fin : ∀ H' s1, Inv (blkH X s H scope cenv fp) [] (wipe σ (own.map (·.2))) H' s1 → Q (.ref D) H' → R (.ok .next) s1) :
    codeAny (model X.prog X.w) X.A (.compLoop (.ListComp elt [⟨tg, iter, ifs, 0⟩] scope pos) 0 (.ref it) (.ref D) cenv) R s' := by
  have aside : ∀ {σ1 : St} {H1 : Hp} {s1 : Shared}, Inv (blkH X s H scope cenv fp) [] σ1 H1 s1 → (∀ b ∈ fp, H1 b = none) → ∀ b ∈ fp, FpOk (blkH X s H scope cenv fp) [] H1 b := fun {σ1 H1 s1} I1 h1 b hb =>
    ⟨h1 b hb, (I1.ok.exf b hb).1, I1.ok.exfs b hb, .inl hb, (I1.ok.exf b hb).2, fun p hp => far b hb p (by simpa using hp)⟩
  refine compLoop_any (fun n s1 => ∃ i H1, Inv (blkH X s H scope cenv fp) [] (wipe σ (own.map (·.2))) H1 s1 ∧ tn i s1.heap ∧ (∀ b ∈ fp, H1 b = none) ∧ W i n H1) ?_ m0 ⟨0, H, I0, st0, free0, w0⟩
  rintro n s1 ⟨i, H1, I1, st1, fr1, w1⟩
  rcases turn i n H1 w1 with ⟨stop, qq⟩ | ⟨go, Nx, hNx, step⟩
  · refine thnF (T.done (blkH X s H scope cenv fp) rfl rfl rfl (hotBlk hc) i [] s1 _ H1 (fun _ _ => False) I1 (aside I1 fr1) st1 stop) fun r s2 ⟨hr, I2⟩ => ?_
    subst hr
    exact fin H1 s2 I2 qq
  · refine thnF (T.item (blkH X s H scope cenv fp) rfl rfl rfl (hotBlk hc) i [] s1 _ H1 (fun _ _ => False) I1 (aside I1 fr1) st1 go) fun r s2 ⟨u, hr, h2⟩ => ?_
    subst hr
    refine thnF h2 fun _ s3 ⟨x, H3, I3, r3, y3, st3, fr3⟩ => ?_
    refine thnF (pg.run _ s3 _ H3 x u _ (I3.pinned (aside I3 fr3) (T.obj _ _ st3)) r3 (step x H3 y3)) fun _ s4 ⟨σ4, H4, I4, e4, q4⟩ => ?_
    refine thnF (pt.run _ s4 σ4 H4 _ I4 q4) fun b s5 ⟨H5, I5, q5⟩ => ?_
    have next : ∀ {s6 : Shared} {H6 : Hp}, Inv (blkH X s H scope cenv fp) ([] ++ pinsAt fp s3.heap) σ4 H6 s6 → Nx H6 → ∃ m, m < n ∧ ∃ i H1, Inv (blkH X s H scope cenv fp) [] (wipe σ (own.map (·.2))) H1 s6 ∧ tn i s6.heap ∧ (∀ b ∈ fp, H1 b = none) ∧ W i m H1 := fun {s6 H6} I6 nx => by
      obtain ⟨m', hm, w'⟩ := hNx H6 nx
      have still : ∀ b ∈ fp, ∀ o, s3.heap.get? b = some o → s6.heap.get? b = some o ∧ H6 b = none := fun b hb o e =>
        ⟨(I6.pin (b, o) (List.mem_append_right _ (List.mem_append_right _ (mem_pinsAt hb e)))).1, (I6.pin (b, o) (List.mem_append_right _ (List.mem_append_right _ (mem_pinsAt hb e)))).2.1⟩
      refine ⟨m', hm, i + 1, H6, (I6.unpinned (pins := [])).weak (by rw [← e4, wipe_length]) (fun j v e => ?_), T.keep _ _ _ st3 fun b hb o e => (still b hb o e).1, fun b hb => ?_, w'⟩
      · rw [← e4] at e; exact (wipe_some e).1
      · obtain ⟨o, e, _⟩ := T.obj _ _ st3 b hb
        exact (still b hb o e).2
    cases b with
    | false =>
      simp only [Bool.false_eq_true, if_false] at q5 ⊢
      exact next I5 q5
    | true =>
      simp only [if_true] at q5 ⊢
      refine thnF (pe.run _ s5 σ4 H5 _ I5 q5) fun z s6 ⟨yv, H6, I6, r6, acc, hD, hz, nx⟩ => ?_
      exact app_ok (X := blkH X s H scope cenv fp) I6 hD hz r6 fun s7 I7 => next I7 nx
/-- [..] while an exception is handled -/
theorem lcH_core {pins : List (Addr × Obj)} {s : Shared} {σ : St} {H : Hp} {Q : VK} {use : Option (Value → Sem Unit)} {Qf : Value → Shared → Prop} (hc : L2H.HotC X) (hN : X.N.Nodup) (I : Inv X pins σ H s) (hi : L2H.PIH X tg iter wi) (ok : BlkOk X.N X.env.scope scope own)
    (hg : ∀ (s : Shared) (H : Hp) (C : Addr) (cl : List (Str × Addr)) (fp : List Addr), PG (blkH X s H scope (compEnvC scope cl C X.env) fp) tg g) (ht : ∀ (s : Shared) (H : Hp) (C : Addr) (cl : List (Str × Addr)) (fp : List Addr), PTs (blkH X s H scope (compEnvC scope cl C X.env) fp) ifs tt)
    (he : ∀ (s : Shared) (H : Hp) (C : Addr) (cl : List (Str × Addr)) (fp : List Addr), PE (blkH X s H scope (compEnvC scope cl C X.env) fp) elt te) (hs : ∀ x, foldedSetIterable iter X.env x = pure x)
    (h : tLc wi g tt te (own.map (·.2)) σ H Q)
    (out : ∀ D C s' m H', Inv X pins σ H' s' → Q (.ref D) H' → s'.heap.Ns C m → FpOk X pins H' C → compPost (model X.prog X.w) X.A X.xe use Qf (.ref D) C (.ok .next) s') :
    wpAny (model X.prog X.w) X.A (comprehension (.ListComp elt [⟨tg, iter, ifs, 0⟩] scope pos) scope X.env pos' (newList []) false (eval iter X.env) use) Qf X.xe s := by
  refine wpAny_comprehension_free (use := use) rfl hs (closure_ok fun y hy e => (ok.free y hy e).elim (fun k => I.ok.has _ (.inl k)) fun k => I.ok.has _ (.inr k)) ok.kind (fun y hy e => by rw [ok.uniq y hy, e])
    (thn (hi.run pins s σ H _ I h) fun xv s1 hx => thn hx fun itv s2 ⟨it, fp, tn, J, H2, e, I2, T, st2, f2, q⟩ => ?_)
  subst e
  refine wpAny_newObj_type (newEnv_comp ?_) (by show 0 ≤ sizeLine; decide)
  have hDn : H2 s2.heap.objs.size = none := I2.hok.fresh (Nat.le_refl _)
  obtain ⟨W, ⟨m0, w0⟩, turn⟩ := q _ hDn
  have I3 : Inv X pins σ (upd H2 s2.heap.objs.size (.lst [])) { s2 with heap := s2.heap.push { cls := .type "list", data := .seq ([] : List Value).toArray } } :=
    I2.laid (t' := s2.toks) (fun b o e => Heap.get?_push_of_some _ e) (Nat.le_refl _) ⟨Nat.zero_le _, [], 0, .nil, Heap.get?_push_size _ rfl⟩
  have lt2 : ∀ b ∈ fp, b < s2.heap.objs.size := fun b hb => let ⟨o, e, _⟩ := T.obj _ _ st2 b hb; Heap.lt_size e
  have nfp : ∀ b ∈ fp, (upd H2 s2.heap.objs.size (.lst [])) b = none := fun b hb => by rw [upd_ne (Nat.ne_of_lt (lt2 b hb))]; exact (f2 b hb).1
  have st3 : tn 0 (s2.heap.push { cls := .type "list", data := .seq ([] : List Value).toArray }) := T.keep _ _ _ st2 fun b _ o e => Heap.get?_push_of_some _ e
  have sz3 : (s2.heap.push { cls := .type "list", data := .seq ([] : List Value).toArray }).objs.size = s2.heap.objs.size + 1 := Heap.size_push ..
  have f3 : ∀ b ∈ fp, FpOk X pins (upd H2 s2.heap.objs.size (.lst [])) b ∧ b < (s2.heap.push { cls := .type "list", data := .seq ([] : List Value).toArray }).objs.size := fun b hb =>
    ⟨⟨nfp b hb, (f2 b hb).2⟩, by rw [sz3]; exact Nat.lt_succ_of_lt (lt2 b hb)⟩
  generalize hs3 : ({ s2 with heap := s2.heap.push { cls := .type "list", data := .seq ([] : List Value).toArray } } : Shared) = s3 at I3 ⊢
  have h3 : s2.heap.push { cls := .type "list", data := .seq ([] : List Value).toArray } = s3.heap := by rw [← hs3]
  rw [h3] at st3 f3
  have I4 := blkH_start I3 ok hN f3
  have st4 : tn 0 (pushCells (s3.heap.push { cls := .type "dict", data := .dict #[] }) scope.names) := T.keep _ _ _ st3 fun b _ o e => pushCells_keeps _ _ _ _ (Heap.get?_push_of_some _ e)
  have loop := lcH_loop (R := compPost (model X.prog X.w) X.A X.xe use Qf (.ref s2.heap.objs.size) s3.heap.objs.size) (iter := iter) (pos := pos) hc T I4 st4 nfp (hg _ _ _ _ _) (ht _ _ _ _ _) (he _ _ _ _ _) (fun b hb p hp => (f3 b hb).1.2.2.2.2.2 p (List.mem_append_left _ hp)) w0 turn fun H' s5 I5 q5 => by
    have I7 : Inv X pins σ H' s5 := I3.call' (ch := fp) I5.os I5.base I5.hok I5.bare fun b hb => ⟨(f3 b hb).1.2.2.2.1, (f3 b hb).1.2.1, (f3 b hb).1.2.2.2.2.1, (f3 b hb).1.2.2.2.2.2⟩
    obtain ⟨m, hn, _⟩ := I5.loc
    exact out _ s3.heap.objs.size s5 m H' I7 q5 hn (I3.fpOk (Nat.le_refl _) I5.free)
  exact codeAny_compStart_list loop (T.self X.A 0 _ _ _ st4 loop)
theorem pe_lcH (hc : L2H.HotC X) (hN : X.N.Nodup) (hi : L2H.PIH X tg iter wi) (ok : BlkOk X.N X.env.scope scope own)
    (hg : ∀ (s : Shared) (H : Hp) (C : Addr) (cl : List (Str × Addr)) (fp : List Addr), PG (blkH X s H scope (compEnvC scope cl C X.env) fp) tg g) (ht : ∀ (s : Shared) (H : Hp) (C : Addr) (cl : List (Str × Addr)) (fp : List Addr), PTs (blkH X s H scope (compEnvC scope cl C X.env) fp) ifs tt)
    (he : ∀ (s : Shared) (H : Hp) (C : Addr) (cl : List (Str × Addr)) (fp : List Addr), PE (blkH X s H scope (compEnvC scope cl C X.env) fp) elt te) (hs : ∀ x, foldedSetIterable iter X.env x = pure x := by intro _; rfl) :
    PE X (.ListComp elt [⟨tg, iter, ifs, 0⟩] scope pos) (tLc wi g tt te (own.map (·.2))) := by
  refine ⟨fun pins s σ H Q I h => ?_⟩
  rw [eval_ListComp]
  refine lcH_core hc hN I hi ok hg ht he hs h fun D C s' m H' I' q hn ⟨f0, f1, f2, f3, f4, f5⟩ => ⟨m, hn, fun h2 sb => ?_⟩
  exact ⟨.ref D, H', I'.turned (t' := s'.toks) (fun b o hb e => (sb.2 b hb).trans e) f0 f1 f3 f4 f5, rfl, q⟩
/-- name = [..] on one line, the name a local -/
theorem ps_setLcH {i : Nat} {y : Str} {py spos : Pos} (hc : L2H.HotC X) (hN : X.N.Nodup) (hy : X.N[i]? = some y) (hyl : X.env.scope.names.lookup y = some .local)
    (hsw : swapsWith (.ListComp elt [⟨tg, iter, ifs, 0⟩] scope pos) (some (.Name y py)) spos.line X.env = pure true) (hi : L2H.PIH X tg iter wi) (ok : BlkOk X.N X.env.scope scope own)
    (hg : ∀ (s : Shared) (H : Hp) (C : Addr) (cl : List (Str × Addr)) (fp : List Addr), PG (blkH X s H scope (compEnvC scope cl C X.env) fp) tg g) (ht : ∀ (s : Shared) (H : Hp) (C : Addr) (cl : List (Str × Addr)) (fp : List Addr), PTs (blkH X s H scope (compEnvC scope cl C X.env) fp) ifs tt)
    (he : ∀ (s : Shared) (H : Hp) (C : Addr) (cl : List (Str × Addr)) (fp : List Addr), PE (blkH X s H scope (compEnvC scope cl C X.env) fp) elt te) (hs : ∀ x, foldedSetIterable iter X.env x = pure x := by intro _; rfl) :
    PS X (.Assign [.Name y py] (.ListComp elt [⟨tg, iter, ifs, 0⟩] scope pos) spos) (tAsg (tLc wi g tt te (own.map (·.2))) (gName i)) := by
  refine ⟨fun pins s σ H D I h => ?_⟩
  rw [exec_Assign_Name_used _ _ _ _ hsw]
  refine wpAny_bind (wpAny_standAt (wpAny_bind ?_))
  show wpAny _ X.A (do let _ ← comprehension (.ListComp elt [⟨tg, iter, ifs, 0⟩] scope pos) scope X.env (firstIterPos [⟨tg, iter, ifs, 0⟩] pos) (newList []) false (eval iter X.env) (some (assign (.Name y py) X.env))) _ _ s
  have h : tLc wi g tt te (own.map (·.2)) σ H (fun x H1 => gName i x σ H1 D.nx) := h
  refine wpAny_bind (thn (lcH_core (Qf := fun _ s' => SP X pins D .next s') hc hN I hi ok hg ht he hs h fun L C s' m H' I' q hn ⟨f0, f1, f2, f3, f4, f5⟩ => ?_) fun _ s' hq => wpAny_pure (wpAny_pure hq))
  show wpAny _ _ (assign (.Name y py) X.env (.ref L)) _ _ _
  refine wpAny_assign_Name (store_ok2 (v := V.ref L) I' hN hy (.inl hyl) rfl (fun s2 I2 ⟨a, sb, ha⟩ => ⟨m, hn.sameBut sb ?_, fun h3 sb3 => ⟨_, H', I2.turned (t' := s2.toks) (fun b o hb e => (sb3.2 b hb).trans e) f0 f1 f3 f4 f5, q⟩⟩) (.inr hyl))
  rcases ha with z | z
  · rw [z]; exact f1
  · exact fun e => f4 y a z e.symm
end
end Lk
namespace Lk
open PySem PySem.Spec PyProof.Rows L2

/-! ### dicts -/
theorem hu0 {u : Nat} (h : u + 64 < cLine) : u < cLine := by omega
theorem hu1 {u : Nat} (h : u + 64 < cLine) : u + 1 < cLine := by omega
def aDIn (x y : V) (H : Hp) (Q : VK) : Prop := ∃ a o, y = .ref a ∧ DGet H a x o ∧ Q (.bl o.isSome) H
def aDNin (x y : V) (H : Hp) (Q : VK) : Prop := ∃ a o, y = .ref a ∧ DGet H a x o ∧ Q (.bl (!o.isSome)) H
def aDGet (x y : V) (H : Hp) (Q : VK) : Prop := ∃ a v, x = .ref a ∧ DGet H a y (some v) ∧ Q v H
def aDPut (x y v : V) (H : Hp) (k : Hp → Prop) : Prop := ∃ a H', x = .ref a ∧ DPut H a y v H' ∧ k H'
section
variable {σ : L2.St} {H : Hp} {Q : VK} {D : Ends} {td ty tv : TE}
theorem s_dnew (k : ∀ p, H p = none → Q (.ref p) (upd H p (.dK []))) : tDNewK σ H Q := k
theorem s_dnewT (k : ∀ p, H p = none → Q (.ref p) (upd H p (.dT []))) : tDNewT σ H Q := k
theorem s_din (k : ty σ H fun y H1 => td σ H1 fun x H2 => aDIn y x H2 Q) : tDIn ty td σ H Q := k
theorem s_dnin (k : ty σ H fun y H1 => td σ H1 fun x H2 => aDNin y x H2 Q) : tDNotIn ty td σ H Q := k
theorem s_dget (k : td σ H fun x H1 => ty σ H1 fun y H2 => aDGet x y H2 Q) : tDGet td ty σ H Q := k
theorem s_dput (k : tv σ H fun v H1 => td σ H1 fun x H2 => ty σ H2 fun y H3 => aDPut x y v H3 (D.nx σ)) : sDPut td ty tv D σ H := k
end
/-- a dict whose keys are the numbers us, each with the value v -/
def dkS (v : V) (us : List Int) : List (Key × V) := us.map fun u => (Sum.inl u, v)
def insU (us : List Int) (i : Int) : List Int := if i ∈ us then us else us ++ [i]
theorem dkS_val (v : V) (us : List Int) (i : Int) : valV (dkS v us) (Sum.inl i) = if i ∈ us then some v else none := by
  induction us with
  | nil => rfl
  | cons u us ih =>
    unfold dkS at ih ⊢
    rw [List.map_cons]
    by_cases c : u = i
    · subst c
      rw [valV_pos rfl, if_pos List.mem_cons_self]
    · rw [valV_neg (fun z => c (Sum.inl.inj z)), ih]
      by_cases d : i ∈ us
      · rw [if_pos d, if_pos (List.mem_cons_of_mem _ d)]
      · rw [if_neg d, if_neg (fun z => (List.mem_cons.mp z).elim (fun y => c y.symm) d)]
theorem dkS_put (v : V) (us : List Int) (i : Int) : putK (dkS v us) (Sum.inl i) v = dkS v (insU us i) := by
  unfold insU
  by_cases d : i ∈ us
  · rw [if_pos d]
    unfold putK
    rw [valV_any, dkS_val, if_pos d, if_pos (show (some v).isSome = true from rfl)]
    unfold dkS
    rw [List.map_map]
    apply List.map_congr_left
    intro u hu
    show (if (Sum.inl u : Key) = Sum.inl i then ((Sum.inl u : Key), v) else (Sum.inl u, v)) = _
    split <;> rfl
  · rw [if_neg d, putK_new v (by rw [dkS_val, if_neg d])]
    unfold dkS
    rw [List.map_append]; rfl
section
variable {H : Hp} {Q : VK} {a : Addr} {us : List Int} {i : Int} {v : V}
theorem w_dinI (hp : H a = some (.dK (dkS v us))) (k : Q (.bl (decide (i ∈ us))) H) : aDIn (.int i) (.ref a) H Q :=
  ⟨a, _, rfl, DGet.k (k := Sum.inl i) hp, by
    rw [dkS_val]
    by_cases c : i ∈ us
    · rw [if_pos c]; rw [decide_eq_true c] at k; exact k
    · rw [if_neg c]; rw [decide_eq_false c] at k; exact k⟩
theorem w_dninI (hp : H a = some (.dK (dkS v us))) (k : Q (.bl (!decide (i ∈ us))) H) : aDNin (.int i) (.ref a) H Q :=
  ⟨a, _, rfl, DGet.k (k := Sum.inl i) hp, by
    rw [dkS_val]
    by_cases c : i ∈ us
    · rw [if_pos c]; rw [decide_eq_true c] at k; exact k
    · rw [if_neg c]; rw [decide_eq_false c] at k; exact k⟩
theorem w_dputI {k : Hp → Prop} (hp : H a = some (.dK (dkS v us))) (hl : us.length < sizeLine) (q : k (upd H a (.dK (dkS v (insU us i))))) : aDPut (.ref a) (.int i) v H k :=
  ⟨a, _, rfl, DPut.k (k := Sum.inl i) hp (by unfold dkS; rw [List.length_map]; exact hl), by rw [dkS_put]; exact q⟩
end
theorem insU_len (us : List Int) (i : Int) : (insU us i).length ≤ us.length + 1 := by
  unfold insU
  split
  · omega
  · rw [List.length_append]; simp
theorem insU_mem {us : List Int} {i u : Int} : u ∈ insU us i ↔ u ∈ us ∨ u = i := by
  unfold insU
  by_cases c : i ∈ us
  · rw [if_pos c]
    exact ⟨.inl, fun h => h.elim id fun z => z ▸ c⟩
  · rw [if_neg c, List.mem_append, List.mem_singleton]
/-! ### list.pop(i) -/
section
variable {H : Hp} {Q : VK} {p : Addr}
theorem w_pop0 {us : List Int} {u : Int} {rest : List Int} (hp : H p = some (.lst (us.map V.int))) (e : us = u :: rest) (k : Q (.int u) (upd H p (.lst (rest.map V.int)))) : rPopAt (.ref p) [.int 0] H Q := by
  subst e
  refine ⟨p, _, 0, 0, .int u, rfl, rfl, hp, by omega, by omega, ?_, rfl, ?_⟩
  · simp [seqIndex?]
  · exact k
theorem w_popM {us : List Int} (hp : H p = some (.lst (us.map V.int))) (hl : 0 < us.length) (k : Q (.int (us.getD 0 default)) (upd H p (.lst ((us.drop 1).map V.int)))) : rPopAt (.ref p) [.int 0] H Q := by
  cases us with
  | nil => exact absurd hl (by simp)
  | cons u rest => exact w_pop0 hp rfl k
end
/-- a test that is a truth value of the kit -/
theorem s_tB {t : TE} {σ : L2.St} {H : Hp} {Q : Bool → Hp → Prop} (k : t σ H fun x H1 => aB x H1 Q) : tB t σ H Q := k
/-! ### tuple + tuple -/
theorem mapNe {α β : Type} {f : α → β} {us : List α} (h : us ≠ []) : us.map f ≠ [] := fun z => h (List.map_eq_nil_iff.mp z)
theorem w_catT {K : PySem.W.Frag} {H : Hp} {Q : VK} {a b : Addr} {xs ys : List V} (ha : H a = some (.tup xs)) (hb : H b = some (.tup ys)) (hx : xs ≠ []) (hy : ys ≠ []) (hz : xs.length + ys.length ≤ sizeLine) (k : ∀ p, H p = none → Q (.ref p) (upd H p (.tup (xs ++ ys)))) : rCatT K (.ref a) (.ref b) H Q :=
  ⟨a, b, xs, ys, rfl, rfl, .inl (.inl ha), .inl (.inl hb), hx, hz, fun z => absurd z hy, fun _ p hp => k p hp⟩
/-! ### loops over tuples, also while an exception is handled -/
theorem tup_stop {prog : Program} {w : World} {A : Around} {E : Value → Shared → Prop} {s : Shared} {it t x1 : Addr} {i : Nat} {items : Array Value} {Q : Option Value → Shared → Prop} (hot : HotX.HotAt A x1 s.heap) (hne : x1 ≠ it) (hit : s.heap.IsTupleIter it t i) (ht : s.heap.IsTuple t items) (hx : items[i]? = none)
    (hQ : ∀ h', (∀ b o, b ≠ it → s.heap.get? b = some o → h'.get? b = some o) → Q none { s with heap := h' }) : wpAny (model prog w) A (pyNext (.ref it)) Q E s := by
  obtain ⟨oi, hoi, hci, hdi⟩ := id hit
  obtain ⟨ol, hol, _, nl, hdl⟩ := ht
  obtain ⟨hh, o1, vs1, h1, d1, c1⟩ := hot
  unfold pyNext
  refine wpAny_bind (wpAny_attempt (wpAny_callSpecial?_slot (name := Str.ofString "__next__") hit.typeIs F.slot_tuple_iterator_next
    (wpAny_call_entry F.slot_tuple_iterator_next hit.typeIs F.entry_tuple_iterator_next ?_ (F.args_tuple_iterator_next_1 _))))
  show wpAny _ _ (field (.ref it) 0 >>= _) _ _ s
  refine wpAny_bind (wpAny_field hoi hdi (x := .ref t) rfl ?_)
  show wpAny _ _ (if (Value.ref t == Value.none) = true then _ else _) _ _ s
  rw [if_neg (show ¬ ((Value.ref t == Value.none) = true) from Bool.false_ne_true)]
  show wpAny _ _ (field (.ref it) 1 >>= _) _ _ s
  refine wpAny_bind (wpAny_field hoi hdi (x := .int i 0) rfl ?_)
  show wpAny _ _ (seqItems? (.ref t) >>= _) _ _ s
  refine wpAny_bind (wpAny_seqItems hol hdl ?_)
  simp only [Int.toNat_natCast, hx]
  refine wpAny_bind (wpAny_rule (wpAny_bind (wpAny_setField hoi hdi (by simp) ?_)))
  show wpAny _ _ (newExc (.type "StopIteration") [] >>= _) _ _ _
  refine wpAny_bind ?_
  simp only [newExc, newTuple]
  refine wpAny_bind (wpAny_newObj_type ?_ (by size_fits))
  refine wpAny_bind (m := firstArgMember _ _) (wpAny_of_eq (a := Value.none) (by first | rfl | (simp only [firstArgMember]; rfl)) ?_)
  refine wpAny_newObj_type ?_ (by size_fits)
  have q1 := (Heap.get?_update_other s.heap (Obj.mapFields (·.setIfInBounds 0 .none)) (Ne.symm hne)).trans h1
  refine HotX.raiseNew_hot ⟨hh, o1, vs1, Heap.get?_push_of_some _ (Heap.get?_push_of_some _ q1), d1, c1⟩ (Nat.ne_of_lt (Heap.lt_size (Heap.get?_push_of_some _ q1))) (Heap.get?_push_size _ rfl) rfl (by first | (simp; done) | (simp; omega) | (simp only [Array.size_append]; simp; omega)) ?_
  refine wpAny_bind (wpAny_isInstance (T := "StopIteration") (b := true) ⟨_, Heap.get?_update_self _ (Heap.get?_push_size _ rfl) rfl, rfl⟩ isSubtype_stop ?_)
  refine wpAny_pure (hQ _ fun b u hb e => ?_)
  have q2 := (Heap.get?_update_other s.heap (Obj.mapFields (·.setIfInBounds 0 .none)) (Ne.symm hb)).trans e
  rw [Heap.get?_update_other _ _ (Nat.ne_of_gt (Heap.lt_size (Heap.get?_push_of_some _ q2)))]
  exact Heap.get?_push_of_some _ (Heap.get?_push_of_some _ q2)
theorem turn_tupH {P : Program} {w : World} {K : PySem.W.Frag} {tg : Expr} (a it : Addr) : L2H.TurnH P w K tg (Itt K a) [it] it (fun i h => h.IsTupleIter it a i) := by
  have T : Turn P w K tg (Itt K a) [it] it (fun i h => h.IsTupleIter it a i) := turn_tuple a it
  refine ⟨T.mem, T.obj, T.keep, ?_, ?_, T.self⟩
  · intro X hP hw hK hc i pins s σ H E I hf st hg
    subst hP hw hK
    obtain ⟨xs, x, hq, hx⟩ := hg
    obtain ⟨its, rv, p, hz⟩ := I.tuple hq
    obtain ⟨u, hu, ru⟩ := rv.get hx
    obtain ⟨f0, f1, f2, f3, f4, f5⟩ := hf it (by simp)
    refine wpAny_pyNext_tuple_item st (show s.heap.IsTuple a its.toArray from p) (x := u) (by simpa using hu) fun h' st' sb => ⟨u, rfl, ?_⟩
    have I1 := I.turned (t' := s.toks) (fun b o hb e => (sb.2 b hb).trans e) f0 f1 f3 f4 f5
    obtain ⟨oi, e, c, d⟩ := id st'
    exact go_of (s := { s with heap := h' }) e c d (by decide) ⟨x, H, I1, ru, ⟨rfl, fun ys hy => by rw [I.tuple_inj hy hq]; exact hx⟩, st', fun b hb => (hf b hb).1⟩
  · intro X hP hw hK hc i pins s σ H E I hf st hg
    subst hP hw hK
    obtain ⟨xs, hq, hx⟩ := hg
    obtain ⟨its, rv, p, hz⟩ := I.tuple hq
    have hl := rv.length
    obtain ⟨f0, f1, f2, f3, f4, f5⟩ := hf it (by simp)
    obtain ⟨x1, ⟨hh, v1, e1, c1⟩, hp⟩ := hc
    have hp := List.mem_append_left pins hp
    exact tup_stop ⟨hh, x1.2, v1, (I.pin x1 hp).1, e1, c1⟩ (f5 x1 hp) st (show s.heap.IsTuple a its.toArray from p) (by simp; omega) fun h' eb => ⟨rfl, I.turned (t' := s.toks) eb f0 f1 f3 f4 f5⟩
theorem pi_tupH {X : Cx} {tg l : Expr} {tl : TE} (hl : PE X l tl) : L2H.PIH X tg l (iTup X.K tl) := by
  refine ⟨fun pins s σ H R I h => thn (hl.run pins s σ H _ I h) fun v s1 ⟨x, H1, I1, r1, a, e, ⟨xs, hq⟩, q⟩ => ?_⟩
  subst e
  cases r1
  obtain ⟨its, rv, p, hz⟩ := I1.tuple hq
  refine wpAny_pyIter_tuple (show s1.heap.IsTuple a its.toArray from p) ⟨s1.heap.objs.size, [s1.heap.objs.size], _, _, H1, rfl, I1.kept (t' := s1.toks) fun b o e => Heap.get?_push_of_some _ e, turn_tupH a _, ⟨_, Heap.get?_push_size _ rfl, rfl, rfl⟩, fun b hb => ?_, q⟩
  rw [List.mem_singleton.mp hb]
  exact I1.fpOk (Nat.le_refl _) (I1.hok.fresh (Nat.le_refl _))
section
variable {g : TG} {tb : TS} {D : Ends} {te : TE} {σ : L2.St} {H : Hp} {K : PySem.W.Frag} {nx bk ct : L2.St → Hp → Prop} {rt : VK}
def aFTup (K : PySem.W.Frag) (g : TG) (tb : TS) (D : Ends) (σ : L2.St) (x : V) (H1 : Hp) : Prop := ∃ a, x = .ref a ∧ (∃ xs, SqT K H1 a xs) ∧ aLoop (Itt K a) g tb D σ H1
theorem s_forT (k : te σ H fun x H1 => aFTup K g tb D σ x H1) : tFor (iTup K te) g tb D σ H := k
theorem w_forT {α : Type} {f : α → V} {us : List α} {p : Addr} (hp : H p = some (.tup (us.map f))) (Pv : Nat → L2.St → Hp → Prop) (h0 : Pv 0 σ H) (hl : ∀ i σ' H', i ≤ us.length → Pv i σ' H' → H' p = some (.tup (us.map f)))
    (hs : ∀ (i : Nat) (u : α) σ' H', us[i]? = some u → Pv i σ' H' → g (f u) σ' H' fun σ2 H2 => tb ⟨Pv (i + 1), rt, nx, Pv (i + 1)⟩ σ2 H2) (hd : ∀ σ' H', Pv us.length σ' H' → nx σ' H') : aFTup K g tb ⟨nx, rt, bk, ct⟩ σ (.ref p) H :=
  ⟨p, rfl, ⟨_, .inl (.inl hp)⟩, for_tup (K := K) (a := p) (xs := us.map f) Pv h0 (fun i σ' H' hi q => .inl (.inl (hl i σ' H' (by simpa using hi) q))) (fun i x σ' H' hx q => by
    rw [List.getElem?_map] at hx
    cases e : us[i]? with
    | none => rw [e] at hx; cases hx
    | some u =>
      rw [e] at hx
      cases hx
      exact hs i u σ' H' e q) (fun σ' H' q => hd σ' H' (by simpa using q))⟩
end
/-! ### lists of truth values -/
theorem eqvAll_bool : ∀ (ns ms : List Bool), PyData.eqvAll (ns.map PyData.bool) (ms.map PyData.bool) = decide (ns = ms) := by
  intro ns
  induction ns with
  | nil => intro ms; cases ms <;> simp [PyData.eqvAll]
  | cons n ns ih =>
    intro ms
    cases ms with
    | nil => simp [PyData.eqvAll]
    | cons m ms =>
      rw [List.map_cons, List.map_cons, PyData.eqvAll, ih]
      cases n <;> cases m <;> simp [PyData.eqv]
theorem dpAllB {K : PySem.W.Frag} {H : Hp} : ∀ (ns : List Bool), DpAll K H (ns.map V.bl) (ns.map PyData.bool)
  | [] => .nil
  | n :: ns => .cons (.bl n) (dpAllB ns)
theorem shapedB (ns : List Bool) : SeqAt.shaped (.list (ns.map PyData.bool)) = true := by
  have h1 : ∀ ns : List Bool, PyData.canLayAll0 (ns.map PyData.bool) = true := by
    intro ns
    induction ns with
    | nil => rfl
    | cons n ns ih => rw [List.map_cons, PyData.canLayAll0, ih]; rfl
  have h2 : ∀ ns : List Bool, PyData.depthAll (ns.map PyData.bool) = 0 := by
    intro ns
    induction ns with
    | nil => rfl
    | cons n ns ih => rw [List.map_cons, PyData.depthAll, ih]; rfl
  unfold SeqAt.shaped
  rw [PyData.canLay0, h1, PyData.depth, h2]
  decide
theorem w_eqLB {K : PySem.W.Frag} {H : Hp} {Q : VK} {p q : Addr} {ns ms : List Bool} (hp : H p = some (.lst (ns.map V.bl))) (hq : H q = some (.lst (ms.map V.bl))) (k : Q (.bl (decide (ns = ms))) H) : aEq K (.ref p) (.ref q) H Q :=
  .inr ⟨_, _, .lst (SqL.of hp) (dpAllB ns), .lst (SqL.of hq) (dpAllB ms), shapedB ns, shapedB ms, by rw [PyData.eqv, eqvAll_bool]; exact k⟩
/-! ### leaving a loop -/
theorem s_brk {σ : St} {H : Hp} {nx bk ct : St → Hp → Prop} {rt : VK} (k : bk σ H) : tBreak ⟨nx, rt, bk, ct⟩ σ H := k
theorem s_cont {σ : St} {H : Hp} {nx bk ct : St → Hp → Prop} {rt : VK} (k : ct σ H) : tCont ⟨nx, rt, bk, ct⟩ σ H := k
/-! ### a cut at a test -/
def tCutT (t : TT) : TT := fun σ H Q => ∃ P : Bool → Hp → Prop, t σ H P ∧ ∀ b H1, P b H1 → Q b H1
theorem pt_cutT {X : Cx} {e : Expr} {t : TT} (h : PT X e t) : PT X e (tCutT t) :=
  ⟨fun pins s σ H Q I ⟨P, h1, h2⟩ => thn (h.run pins s σ H P I h1) fun b s1 ⟨H1, I1, q1⟩ => ⟨H1, I1, h2 b H1 q1⟩⟩
theorem s_cutT {t : TT} {σ : St} {H : Hp} {Q : Bool → Hp → Prop} (p : Prop) [Decidable p] (h1 : t σ H fun b H1 => H1 = H ∧ b = decide p) (h2 : Q (decide p) H) : tCutT t σ H Q :=
  ⟨_, h1, fun _ _ ⟨e1, e2⟩ => by rw [e1, e2]; exact h2⟩
theorem s_cutTK {t : TT} {σ : St} {H : Hp} {Q : Bool → Hp → Prop} (p : Prop) [Decidable p] (R : Hp → Prop) (h1 : t σ H fun b H1 => R H1 ∧ b = decide p) (h2 : ∀ H1, R H1 → Q (decide p) H1) : tCutT t σ H Q :=
  ⟨_, h1, fun _ H1 ⟨e1, e2⟩ => by rw [e2]; exact h2 H1 e1⟩
/-! ### pairs in order -/
theorem w_leT2 {K : PySem.W.Frag} {H : Hp} {Q : VK} {p q : Addr} {x y z w : Int} (hp : H p = some (.tup [.int x, .int y])) (hq : H q = some (.tup [.int z, .int w])) (k : Q (.bl (decide (x < z ∨ (x = z ∧ y ≤ w)))) H) : rLeT K (.ref p) (.ref q) H Q := by
  refine ⟨p, q, [x, y], [z, w], rfl, rfl, SqT.of hp, SqT.of hq, ?_⟩
  rw [show Ob.lexAt (fun j => decide (([x, y] : List Int).getD j 0 = ([z, w] : List Int).getD j 0)) (fun j => decide (([x, y] : List Int).getD j 0 ≤ ([z, w] : List Int).getD j 0)) (decide (([x, y] : List Int).length ≤ ([z, w] : List Int).length)) 0 (min ([x, y] : List Int).length ([z, w] : List Int).length) = decide (x < z ∨ (x = z ∧ y ≤ w)) from ?_]
  · exact k
  · show (if decide (x = z) = true then (if decide (y = w) = true then decide (2 ≤ 2) else decide (y ≤ w)) else decide (x ≤ z)) = _
    by_cases c : x = z
    · rw [if_pos (decide_eq_true c)]
      by_cases d : y = w
      · rw [if_pos (decide_eq_true d)]; exact decide_eq_decide.mpr (by omega)
      · rw [if_neg (by simpa using d)]; exact decide_eq_decide.mpr (by omega)
    · rw [if_neg (by simpa using c)]; exact decide_eq_decide.mpr (by omega)
end Lk
namespace Lk
open PySem PySem.Spec PyProof.Rows L2 TL
/-! ### signed numbers as texts -/
section
open PySem.Builtin PySem.Builtin.Float
theorem wp_ifT {α : Type} {M : Model} {A : Around} {E : Value → Shared → Prop} {s : Shared} {Q : α → Shared → Prop} {c : Prop} [Decidable c] {x y : Sem α} (h : c) (k : wpAny M A x Q E s) : wpAny M A (if c then x else y) Q E s := by rw [if_pos h]; exact k
theorem wp_ifF {α : Type} {M : Model} {A : Around} {E : Value → Shared → Prop} {s : Shared} {Q : α → Shared → Prop} {c : Prop} [Decidable c] {x y : Sem α} (h : ¬c) (k : wpAny M A y Q E s) : wpAny M A (if c then x else y) Q E s := by rw [if_neg h]; exact k
def plusF : FormatSpec := { fill := 32, align := 62, sign := some 43, type := some 100 }
def plusD : Str := Str.ofString "+d"
theorem fmt_plus {prog : Program} {w : World} {A : Around} {E : Value → Shared → Prop} {s : Shared} {a : Int} {t : Tok} {Q : Value → Shared → Prop} (hd : a.natAbs.log2 < 1920) (hl : (intSpecText plusF a).length ≤ sizeLine)
    (h : Q (.str (intSpecText plusF a) (s.toks + 1)) { s with toks := s.toks + 1 + 1 }) : wpAny (model prog w) A (formatField (.int a t) plusD) Q E s := by
  have hp : parseFormatSpec plusD.cps.toList "int" 62 = .ok plusF := rfl
  have hne : (plusD.length == 0) = false := by decide
  have hasc : ((plusD.cps.toList.drop 1).any (· ≥ 128) || (plusD.cps.getD 0 0 ≥ 128 && !([60, 62, 61, 94] : List Nat).contains (plusD.cps.getD 1 0))) = false := by decide
  have hty : plusF.type.getD (if plusD.cps.back? == some 0 then 0 else 100) = 100 := rfl
  show wpAny _ _ (holding [.int a t] (pyFormat (.int a t) plusD)) Q E s
  refine wpAny_holding ?_
  unfold pyFormat
  refine wpAny_bind (wpAny_mkStr ?_ (by decide))
  refine wpAny_bind (m := callSpecial? (.int a t) (Str.ofString "__format__") [.str plusD s.toks]) (wpAny_callSpecial?_slot (name := Str.ofString "__format__") (typeIs_int _ a t) slot_int_format ?_)
  refine wpAny_call (codeAny_call_builtin slot_int_format.plain entry_int_format (slot_int_format.check _ _ _ _ _ _ _ _ (typeIs_int _ a t) (args_int_format _ _) ?_))
  unfold Builtin.«int.__format__»
  simp only [selfAndOne, noKeywords, Int.intOfSelf, asInt?, asStr?, List.isEmpty_nil, if_true, pure_bind, bind_pure, bind_assoc, hne, hasc, Bool.false_eq_true, if_false,
    show (Value.str plusD s.toks == Value.none) = false from rfl]
  refine wpAny_bind (wpAny_typeNameOf (T := "str") (typeIs_str _ _ _) (by decide) fun _ => ?_)
  refine wpAny_bind (wpAny_typeNameOfCut_int ?_)
  simp only [hp, hty]
  refine wp_ifT (by decide) ?_
  show wpAny _ _ (do let r ← Builtin.overDigitLimit? a; _) _ _ _
  rw [PySem.overDigitLimit_small hd]
  refine wpAny_bind (wpAny_pure ?_)
  show wpAny _ _ (retStr _) _ _ _
  unfold retStr
  refine wpAny_bind (wpAny_mkStr (wpAny_pure ?_) ?hs2)
  case hs2 =>
    simp only [show plusF.alt = false from rfl, Bool.false_eq_true, if_false, show ((10 : Nat) == 10) = true by decide, if_true]
    conv => lhs; arg 1; whnf
    simp only [intSpecText, intField', show plusF.alt = false from rfl, Bool.false_eq_true, if_false, show ((10 : Nat) == 10) = true by decide, if_true] at hl ⊢
    exact hl
  dsimp only
  refine wpAny_bind (wpAny_isInstance (typeIs_str _ _ _) isSubtype_str_str (wpAny_pure ?_))
  simp only [show plusF.alt = false from rfl, Bool.false_eq_true, if_false, show ((10 : Nat) == 10) = true by decide, if_true]
  conv => arg 1; arg 1; whnf
  simp only [intSpecText, intField', show plusF.alt = false from rfl, Bool.false_eq_true, if_false, show ((10 : Nat) == 10) = true by decide, if_true] at h ⊢
  exact h
end
/-- the text of a signed number -/
def strP (a : Int) : Str := (if a < 0 then ("-" : Str) else "+") ++ strI (a.natAbs : Int)
theorem plus_text (a : Int) : intSpecText plusF a = strP a := by
  have e := PyProof.Rows.text_ofNat a.natAbs
  have e2 : strI (a.natAbs : Int) = ⟨((Nat.toDigits 10 a.natAbs).map Char.toNat).toArray⟩ := e
  have hd : ∀ ds : List Nat, ds.isEmpty = false → intField' plusF (decide (a < 0)) [] ds [] 3 = ⟨((if a < 0 then [45] else [43]) ++ ds).toArray⟩ := fun ds hds => by
    unfold intField' plusF
    by_cases c : a < 0
    · simp [c, hds]
    · simp [c, hds]
  have hm : ((Nat.toDigits 10 a.natAbs).map fun c => (if (100 : Nat) == 88 then c.toUpper else c).toNat) = (Nat.toDigits 10 a.natAbs).map Char.toNat := List.map_congr_left (fun c _ => by simp)
  unfold intSpecText strP
  rw [hm, hd, e2]
  · by_cases c : a < 0
    · rw [if_pos c, if_pos c]
      refine ext_tl ?_
      rw [tl_append, show tl "-" = [45] by decide +kernel]
    · rw [if_neg c, if_neg c]
      refine ext_tl ?_
      rw [tl_append, show tl "+" = [43] by decide +kernel]
  · have := tDigits_len_ge 10 a.natAbs
    cases e : Nat.toDigits 10 a.natAbs with
    | nil => rw [e] at this; simp at this
    | cons _ _ => rfl
theorem strP_len {a : Int} (h : a.natAbs < 10 ^ 18) : (strP a).length ≤ 19 := by
  have e : strI (a.natAbs : Int) = ⟨((Nat.toDigits 10 a.natAbs).map Char.toNat).toArray⟩ := PyProof.Rows.text_ofNat a.natAbs
  have hl := digits10_le (k := 18) (by omega) h
  unfold strP
  rw [len_tl, tl_append, e, List.length_append]
  have h1 : (tl (if a < 0 then ("-" : Str) else "+")).length = 1 := by split <;> decide +kernel
  have h2 : (tl (⟨((Nat.toDigits 10 a.natAbs).map Char.toNat).toArray⟩ : Str)).length = (Nat.toDigits 10 a.natAbs).length := by simp
  rw [h1, h2]
  omega
section
variable {X : Cx} {te : TE}
def tFmtP (te : TE) : TE := fun σ H Q => te σ H fun x H1 => ∃ i : Int, x = .int i ∧ i.natAbs < 10 ^ 18 ∧ Q (.str (strP i)) H1
theorem pe_fmtP {e : Expr} {p1 p2 pos : Pos} (he : PE X e te) : PE X (.FormattedValue e (-1) (some (.JoinedStr [.Constant (.str plusD) 0 p1] p2)) pos) (tFmtP te) := by
  refine ⟨fun pins s σ H Q I h => ?_⟩
  refine wpAny_FormattedValue_spec (thn (he.run pins s σ H _ I h) fun v s1 hv => ?_)
  obtain ⟨x, H1, I1, r1, i, rfl, hz, q⟩ := hv
  obtain ⟨t, rfl⟩ := r1
  refine wpAny_JoinedStr_one (thn ((pe_str (X := X) (x := plusD) (j := 0) (pos := p1)).run pins s1 σ H1 (fun y H2 => y = .str plusD ∧ H2 = H1) I1 ⟨rfl, rfl⟩) fun v2 s2 hv2 => ?_)
  obtain ⟨y, H2, I2, r2, rfl, rfl⟩ := hv2
  obtain ⟨t2, rfl⟩ := r2
  have hlen := strP_len hz
  rw [← plus_text] at hlen q
  refine ⟨plusD, t2, rfl, fmt_plus ?_ ?_ ⟨.str (intSpecText plusF i), H2, I2.tok _, ⟨_, rfl⟩, q⟩⟩
  · by_cases z : i.natAbs = 0
    · rw [z]; decide
    · have := (Nat.log2_lt z).mpr (Nat.lt_of_lt_of_le hz (show 10 ^ 18 ≤ 2 ^ 1920 from Nat.le_trans (m := 2 ^ 64) (by decide) (Nat.pow_le_pow_right (n := 2) (i := 64) (j := 1920) (by decide) (by decide))))
      exact this
  · rw [sizeLine_eq]; omega
end
section
variable {X : Cx} {te : TE} {σ : St} {H : Hp} {Q : VK}
def aFmtP (x : V) (H1 : Hp) (Q : VK) : Prop := ∃ i : Int, x = .int i ∧ i.natAbs < 10 ^ 18 ∧ Q (.str (strP i)) H1
theorem s_fmtP (k : te σ H fun x H1 => aFmtP x H1 Q) : tFmtP te σ H Q := k
theorem w_fmtP {i : Int} (h : i.natAbs < 1000000000000000000) (k : Q (.str (strP i)) H) : aFmtP (.int i) H Q := ⟨i, rfl, h, k⟩
end
/-! ### over the signs of a text -/
section
def aFStr (g : TG) (tb : TS) (D : Ends) (σ : St) (x : V) (H1 : Hp) : Prop := ∃ z, x = .str z ∧ aLoop (Its z) g tb D σ H1
variable {σ : St} {H : Hp} {D : Ends} {g : TG} {tb : TS} {te : TE}
theorem s_forS (k : te σ H fun x H1 => aFStr g tb D σ x H1) : tFor (iStr te) g tb D σ H := k
theorem w_forS {nx bk ct : St → Hp → Prop} {rt : VK} {z : Str} (Pv : Nat → St → Hp → Prop) (h0 : Pv 0 σ H)
    (hs : ∀ (i : Nat) (c : Nat) σ' H', (tl z)[i]? = some c → Pv i σ' H' → g (.str ⟨#[c]⟩) σ' H' fun σ2 H2 => tb ⟨Pv (i + 1), rt, nx, Pv (i + 1)⟩ σ2 H2) (hd : ∀ σ' H', Pv z.length σ' H' → nx σ' H') : aFStr g tb ⟨nx, rt, bk, ct⟩ σ (.str z) H :=
  ⟨z, rfl, for_it walk_str Pv h0 (fun _ _ _ _ _ => trivial) (fun i x σ' H1 H2 hi p y => by
    obtain ⟨rfl, c, hc, rfl⟩ := y
    exact hs i c σ' H2 (by rw [← hc]; simp) p) hd⟩
theorem w_notInC {c : Nat} {z : Str} {Q : VK} (k : Q (.bl (!decide (c ∈ tl z))) H) : rNotInS (.str ⟨#[c]⟩) (.str z) H Q := ⟨c, z, rfl, rfl, k⟩
theorem w_inST {x : Str} {us : List Str} {p : Addr} {Q : VK} {K : PySem.W.Frag} (hp : H p = some (.tup (us.map V.str))) (k : Q (.bl (decide (x ∈ us))) H) : rIn K false (.str x) (.ref p) H Q :=
  ⟨p, _, rfl, .inr (.inl (.inl hp)), rfl, flat_str us, by rw [inV_str]; exact k⟩
theorem w_notInST {x : Str} {us : List Str} {p : Addr} {Q : VK} {K : PySem.W.Frag} (hp : H p = some (.tup (us.map V.str))) (k : Q (.bl (!decide (x ∈ us))) H) : rIn K true (.str x) (.ref p) H Q :=
  ⟨p, _, rfl, .inr (.inl (.inl hp)), rfl, flat_str us, by rw [inV_str]; exact k⟩
end
/-! ### words of operations -/
/-- a number that can be a node -/
def nodeW (z : Str) : Bool := isNumW z && !decide (z = "0")
theorem strD_len {z : Str} (h : z ≠ "") : tl z ≠ [] := fun e => h (ext_tl (by rw [e]; rfl))
theorem digitsVal_pos : ∀ (l : List Nat) (a : Nat), 0 < a → 0 < l.foldl (fun a c => a * 10 + (c - 48)) a
  | [], a, h => h
  | c :: l, a, h => digitsVal_pos l (a * 10 + (c - 48)) (by omega)
/-- what the law asks of a number's signs -/
def okD (z : Str) : Prop := z ≠ "" ∧ z.length ≤ 9 ∧ (⟨#[z.cps.toList.getD 0 default]⟩ : Str) ≠ "0" ∧ ∀ c ∈ tl z, 48 ≤ c ∧ c ≤ 57
theorem one_sign {c d : Nat} : ((⟨#[c]⟩ : Str) = ⟨#[d]⟩) ↔ c = d := by
  constructor
  · intro h
    have := congrArg tl h
    simpa using this
  · rintro rfl; rfl
theorem zero_sign : ("0" : Str) = ⟨#[48]⟩ := by decide +kernel
theorem okD_node {z : Str} : okD z ↔ nodeW z = true := by
  unfold nodeW
  rw [Bool.and_eq_true, Bool.not_eq_true', decide_eq_false_iff_not]
  constructor
  · rintro ⟨h1, h2, h3, h4⟩
    have hne := strD_len h1
    have hz : z ≠ "0" := fun e => h3 (by rw [e]; decide +kernel)
    refine ⟨?_, hz⟩
    unfold isNumW
    rw [Bool.and_eq_true, Bool.and_eq_true, Bool.or_eq_true]
    have hmem : ∀ c ∈ z.cps, 48 ≤ c ∧ c ≤ 57 := fun c hc => h4 c (Array.mem_toList_iff.mpr hc)
    refine ⟨⟨?_, ?_⟩, .inr ?_⟩
    · unfold Txt.isascii
      rw [Array.all_eq_true_iff_forall_mem]
      intro c hc
      have := hmem c hc
      simp; omega
    · unfold Txt.isdigit
      rw [Bool.and_eq_true]
      refine ⟨?_, ?_⟩
      · have : 0 < z.length := by rw [len_tl]; exact List.length_pos_iff.mpr hne
        simpa using this
      · rw [Array.all_eq_true_iff_forall_mem]
        intro c hc
        have := hmem c hc
        exact digit_ascii c (by omega) this.1
    · rw [Bool.and_eq_true, Bool.not_eq_true', decide_eq_false_iff_not, decide_eq_true_iff]
      exact ⟨h3, by omega⟩
  · rintro ⟨h1, h2⟩
    obtain ⟨a1, a2, a3⟩ := isNumW_parts h1
    obtain ⟨d, ne⟩ := num_digits a1 a2
    refine ⟨fun e => ne (by rw [e]; decide +kernel), a3, ?_, d⟩
    unfold isNumW at h1
    rw [Bool.and_eq_true, Bool.or_eq_true, Bool.and_eq_true, Bool.and_eq_true] at h1
    rcases h1.2 with y | y
    · exact absurd (of_decide_eq_true y) h2
    · simpa using y.1
theorem node_text {z : Str} (h : nodeW z = true) : intText? z = some (numV z) ∧ 1 ≤ numV z ∧ z.length ≤ 9 := by
  obtain ⟨h1, h2, h3, h4⟩ := okD_node.mpr h
  have hne := strD_len h1
  have hn : isNumW z = true := by
    unfold nodeW at h
    rw [Bool.and_eq_true] at h
    exact h.1
  obtain ⟨e, _, _⟩ := num_text hn
  refine ⟨e, ?_, h2⟩
  have e2 := PySem.intText_digits (x := z) h4 hne (by omega)
  unfold numV
  rw [e2]
  show (1 : Int) ≤ ((NumText.digitsVal z.cps.toList : Nat) : Int)
  cases q : z.cps.toList with
  | nil => exact absurd q hne
  | cons c l =>
    rw [q] at h3
    have hc : c ≠ 48 := fun y => h3 (by rw [List.getD_cons_zero, y]; exact zero_sign.symm)
    have hd := h4 c (by rw [show tl z = c :: l from q]; exact List.mem_cons_self)
    have := digitsVal_pos l (0 * 10 + (c - 48)) (by omega)
    unfold NumText.digitsVal
    rw [List.foldl_cons]
    omega
theorem node_strI {i : Int} (h : 1 ≤ i) (h2 : i < 1000000000) : nodeW (strI i) = true := by
  unfold nodeW
  rw [Bool.and_eq_true, Bool.not_eq_true', decide_eq_false_iff_not]
  refine ⟨isNum_strI (by omega) h2, fun e => ?_⟩
  have := numV_strI (i := i) (by omega) h2
  rw [e, show numV "0" = 0 by decide +kernel] at this
  omega
/-- is a word an operation, and which -/
def opW (w : Str) : Bool := (decide (cutS w none (some 1) = ("-" : Str)) || decide (cutS w none (some 1) = ("+" : Str))) && nodeW (cutS w (some 1) none)
def opV (w : Str) : Int := if cutS w none (some 1) = ("-" : Str) then -numV (cutS w (some 1) none) else numV (cutS w (some 1) none)
theorem cut_cons {c : Nat} {l : List Nat} {w : Str} (h : tl w = c :: l) : cutS w none (some 1) = ⟨#[c]⟩ ∧ tl (cutS w (some 1) none) = l := by
  have hl : w.length = l.length + 1 := by rw [len_tl, h]; rfl
  have e1 : HT.sIx w.length 0 none = 0 := rfl
  have e2 : HT.sIx w.length w.length (some 1) = 1 := by
    unfold HT.sIx
    rw [hl]
    simp
  have e3 : HT.sIx w.length 0 (some 1) = 1 := by
    unfold HT.sIx
    rw [hl]
    simp
  have e4 : HT.sIx w.length w.length none = w.length := rfl
  have h' : w.cps.toList = c :: l := h
  refine ⟨ext_tl ?_, ?_⟩
  · unfold cutS
    rw [e1, e2]
    show ((List.take (1 - 0) (List.drop 0 w.cps.toList)).toArray).toList = [c]
    rw [h']; simp
  · unfold cutS
    rw [e3, e4, hl]
    show ((List.take (l.length + 1 - 1) (List.drop 1 w.cps.toList)).toArray).toList = l
    rw [h']; simp
theorem cut_nil {w : Str} (h : tl w = []) : cutS w none (some 1) = "" ∧ cutS w (some 1) none = "" := by
  obtain rfl : w = "" := ext_tl (by rw [h]; rfl)
  exact ⟨by decide +kernel, by decide +kernel⟩
theorem tl_strP (a : Int) : tl (strP a) = (if a < 0 then 45 else 43) :: tl (strI (a.natAbs : Int)) := by
  unfold strP
  rw [tl_append]
  by_cases c : a < 0
  · rw [if_pos c, if_pos c, show tl "-" = [45] by decide +kernel]; rfl
  · rw [if_neg c, if_neg c, show tl "+" = [43] by decide +kernel]; rfl
theorem op_strP {a : Int} (h : a ≠ 0) (h2 : a.natAbs < 1000000000) : opW (strP a) = true ∧ opV (strP a) = a := by
  obtain ⟨e1, e2⟩ := cut_cons (tl_strP a)
  have e3 : cutS (strP a) (some 1) none = strI (a.natAbs : Int) := ext_tl e2
  have hn := node_strI (i := (a.natAbs : Int)) (by omega) (by omega)
  have hv := numV_strI (i := (a.natAbs : Int)) (by omega) (by omega)
  unfold opW opV
  rw [e1, e3, hn, hv]
  by_cases c : a < 0
  · rw [if_pos c, show (⟨#[45]⟩ : Str) = "-" by decide +kernel]
    exact ⟨by simp, by rw [if_pos rfl]; omega⟩
  · rw [if_neg c, show (⟨#[43]⟩ : Str) = "+" by decide +kernel]
    exact ⟨by simp, by rw [if_neg (by decide +kernel)]; omega⟩
theorem strP_sp (a : Int) : 32 ∉ tl (strP a) := by
  rw [tl_strP]
  intro h
  rcases List.mem_cons.mp h with z | z
  · split at z <;> omega
  · exact no_sign (by omega) (by omega) z
theorem split_strP {us : List Int} (hne : us ≠ []) : Txt.split (Txt.join " " (us.map strP)) " " = us.map strP := by
  refine split_join (s := 32) (S := []) tl_sp k_sp (by simpa using hne) fun p hp => ?_
  obtain ⟨u, hu, rfl⟩ := List.mem_map.mp hp
  exact strP_sp u
def wordsOf (z : Str) : List Str := Txt.split z " "
/-! ### lengths of split and joined texts -/
theorem spl_sum (S : List Nat) : ∀ (l : List Nat) (k : Nat) (acc : List Nat), ((spl S k acc l).map (·.length)).sum + (spl S k acc l).length ≤ acc.length + l.length + 1
  | [], k, acc => by rw [spl_nil]; simp
  | c :: r, 0, acc => by
    have h1 := spl_sum S r (S.length - 1) []
    have h2 := spl_sum S r 0 (acc ++ [c])
    cases h : pre S (c :: r) with
    | true =>
      rw [spl_hit h]
      simp only [List.map_cons, List.sum_cons, List.length_cons, List.length_nil] at h1 ⊢
      omega
    | false =>
      rw [spl_miss h]
      simp only [List.length_append, List.length_cons, List.length_nil] at h2 ⊢
      omega
  | c :: r, k + 1, acc => by
    have h1 := spl_sum S r k acc
    show ((spl S k acc r).map (·.length)).sum + (spl S k acc r).length ≤ _
    simp only [List.length_cons]
    omega
def sumL (ws : List Str) : Nat := (ws.map (·.length)).sum
theorem sumL_tl (ws : List Str) : ((ws.map tl).map (·.length)).sum = sumL ws := by
  unfold sumL
  rw [List.map_map]; rfl
theorem words_sum (z : Str) : sumL (wordsOf z) + (wordsOf z).length ≤ z.length + 1 := by
  have e := split_spl z " " (by rw [tl_sp]; simp) (kind_ok k_sp)
  have := spl_sum (tl " ") (tl z) 0 []
  rw [← e, sumL_tl, List.length_map, List.length_nil, ← len_tl] at this
  unfold wordsOf
  omega
theorem join_sum (ws : List Str) : (Txt.join " " ws).length ≤ sumL ws + ws.length := by
  rw [len_tl, join_eq, tl_join, tl_sp]
  have h1 := joinL_len [32] (ws.map tl)
  rw [sumL_tl, List.length_map] at h1
  simp at h1
  exact h1
theorem sumL_set : ∀ (ws : List Str) (i : Nat) (w : Str), sumL (ws.set i w) ≤ sumL ws + w.length
  | [], i, w => by simp [sumL]
  | v :: ws, 0, w => by
    unfold sumL
    simp only [List.set_cons_zero, List.map_cons, List.sum_cons]
    omega
  | v :: ws, i + 1, w => by
    have := sumL_set ws i w
    unfold sumL at this ⊢
    simp only [List.set_cons_succ, List.map_cons, List.sum_cons]
    omega
theorem sumL_ins (ws : List Str) (i : Nat) (w : Str) : sumL (insAt ws i w) ≤ sumL ws + w.length ∧ (insAt ws i w).length = ws.length + 1 := by
  have e : sumL ws = sumL (ws.take i) + sumL (ws.drop i) := by
    conv => lhs; rw [← List.take_append_drop i ws]
    unfold sumL
    rw [List.map_append, List.sum_append]
  have el : ws.length = (ws.take i).length + (ws.drop i).length := by
    rw [← List.length_append, List.take_append_drop]
  unfold insAt
  refine ⟨?_, ?_⟩
  · rw [e]
    unfold sumL
    rw [List.map_append, List.map_append, List.sum_append, List.sum_append, List.map_cons, List.map_nil, List.sum_cons, List.sum_nil]
    omega
  · rw [List.length_append, List.length_append, el]
    simp only [List.length_cons, List.length_nil]
    omega
theorem w_ixS' {K : PySem.W.Frag} {H : Hp} {Q : VK} {a : Str} {i : Int} (hl : a.length ≤ 1000000) (h0 : 0 ≤ i) (h1 : i < (a.length : Int)) (k : ∀ c, Q (.str ⟨#[c]⟩) H) : rIx K (.str a) (.int i) H Q :=
  w_ixS (c := a.cps.toList.getD i.toNat default) (by rw [sizeLine_eq]; omega) h0 (by
    have : a.length = a.cps.toList.length := (Array.length_toList).symm
    rw [List.getD_eq_getElem?_getD, List.getElem?_eq_getElem (show i.toNat < a.cps.toList.length by omega)]; rfl) (k _)
theorem app_len (a b : Str) : (a ++ b).length = a.length + b.length := by rw [len_tl, tl_append, List.length_append, ← len_tl, ← len_tl]
theorem cutS_len (z : Str) (lo hi : Option Int) : (cutS z lo hi).length ≤ z.length := by
  unfold cutS
  show (List.toArray _).size ≤ z.cps.size
  rw [List.size_toArray, ← Array.length_toList]
  rw [List.length_take, List.length_drop]; omega
theorem lt_len {r : Int} {n m : Nat} (h : r < (n : Int)) (e : m = n) : r < (m : Int) := by rw [e]; exact h
end Lk
namespace Lk
open PySem PySem.Spec PyProof.Rows L2
local macro_rules | `(tactic| walk_at "hp") => `(tactic| first
  | assumption
  | exact upd_same
  | ((with_reducible show upd _ _ _ _ = _); first | exact upd_new (by assumption) (by walk_at "hp") | exact upd_get (by walk_at "ne") (by walk_at "hp") | exact upd_kind (by assumption) (by walk_at "hp") (by intro z; cases z))
  | exact Kp.at0 (by assumption) (by walk_at "hp")
  | exact Kp.at (by assumption) (by walk_at "hp") (by walk_at "nm"))
local macro_rules | `(tactic| walk_at "dcd") => `(tactic| first
  | exact decide_eq_decide.mpr (by omega)
  | exact (decide_eq_true (by omega)).symm
  | exact (decide_eq_false (by omega)).symm)
local macro_rules | `(tactic| walk_at "ne") => `(tactic| first
  | assumption
  | exact Ne.symm (by assumption)
  | exact ne_n (by assumption) (by walk_at "hp")
  | exact ne_n' (by assumption) (by walk_at "hp"))
local macro_rules | `(tactic| walk_at "nm") => `(tactic| first
  | exact List.not_mem_nil
  | (refine not_mem2 (by walk_at "ne") ?_; walk_at "nm"))
local macro_rules | `(tactic| walk_at "kp") => `(tactic| first
  | exact Kp.refl
  | assumption
  | (refine Kp.new ?_ (by assumption); walk_at "kp")
  | (refine Kp.mut ?_ (by simp); walk_at "kp")
  | (refine Kp.own ?_ (by walk_at "fr"); walk_at "kp")
  | (refine Kp.trans0 ?_ (by assumption); walk_at "kp")
  | (refine Kp.trans ?_ (by assumption); walk_at "kp"))
local macro_rules | `(tactic| walk_at "num") => `(tactic| first
  | omega
  | (simp only [sizeLine_eq, List.length_map, List.length_append, List.length_cons, List.length_nil, List.length_replicate, List.length_set, List.length_range, CMul, CDivN, CDiv, CPow]; omega)
  | decide)
local macro_rules | `(tactic| walk_at "put") => `(tactic| first
  | (with_reducible exact put_nil)
  | (with_reducible exact put_hit)
  | exact put_miss (by decide) (by walk_at "put"))
local macro_rules | `(tactic| walk_at "fr") => `(tactic| first
  | assumption
  | exact upd_nil (by assumption)
  | exact upd_nil (upd_nil (by assumption))
  | exact upd_nil (upd_nil (upd_nil (by assumption)))
  | exact upd_nil (upd_nil (upd_nil (upd_nil (by assumption))))
  | exact upd_nil (upd_nil (upd_nil (upd_nil (upd_nil (by assumption)))))
  | exact upd_nil (upd_nil (upd_nil (upd_nil (upd_nil (upd_nil (by assumption))))))
  | exact upd_nil (upd_nil (upd_nil (upd_nil (upd_nil (upd_nil (upd_nil (by assumption)))))))
  | exact upd_nil (upd_nil (upd_nil (upd_nil (upd_nil (upd_nil (upd_nil (upd_nil (by assumption))))))))
  | exact upd_nil (upd_nil (upd_nil (upd_nil (upd_nil (upd_nil (upd_nil (upd_nil (upd_nil (by assumption)))))))))
  | exact upd_nil (upd_nil (upd_nil (upd_nil (upd_nil (upd_nil (upd_nil (upd_nil (upd_nil (upd_nil (by assumption))))))))))
  | exact upd_nil (upd_nil (upd_nil (upd_nil (upd_nil (upd_nil (upd_nil (upd_nil (upd_nil (upd_nil (upd_nil (by assumption)))))))))))
  | exact Kp.free (by assumption) (by walk_at "fr"))
local macro_rules | `(tactic| walk_at "lg") => `(tactic| first
  | assumption
  | exact log2_small (by omega))
local macro_rules | `(tactic| walk_at "tst") => `(tactic| first
  | assumption
  | rfl
  | omega)
local macro_rules | `(tactic| walk_at "s") => `(tactic| with_reducible first
  | refine s_seq ?_
  | refine s_var (by with_unfolding_all rfl) ?_
  | refine s_c ?_
  | refine s_op ?_
  | refine s_cons ?_
  | refine s_nil ?_
  | refine s_asg ?_
  | refine s_name (by with_unfolding_all rfl) ?_
  | refine s_sub ?_
  | refine s_callS ?_
  | refine s_CB ?_
  | refine s_BM ?_
  | refine s_BM0 ?_
  | refine s_ret ?_
  | refine s_drop ?_
  | refine s_ifS ?_
  | refine s_B ?_
  | refine s_tru ?_
  | refine s_and ?_
  | refine s_or ?_
  | refine s_not ?_
  | refine s_andV ?_
  | refine s_orV ?_
  | refine s_notV ?_
  | refine s_if ?_
  | refine s_chain ?_
  | refine s_un ?_
  | refine s_lst ?_
  | refine s_tup ?_
  | refine s_sl ?_
  | refine s_nopart ?_
  | refine s_part ?_
  | refine s_next ?_
  | refine s_retN ?_
  | refine s_yes ?_
  | refine s_forR1 ?_
  | refine s_forR2 ?_
  | refine s_forL ?_
  | refine s_forE ?_
  | refine s_lcL ?_
  | refine s_lcR1 ?_
  | refine s_lcR2 ?_
  | refine s_lcE ?_
  | refine s_chain3 ?_
  | refine s_mkx ?_
  | refine s_xfR ?_
  | refine s_fld ?_
  | refine s_sfld ?_
  | refine s_methS ?_
  | refine s_makeS ?_
  | refine s_cval ?_
  | refine s_listRg ?_
  | refine s_lcV ?_
  | refine s_tB ?_
  | refine s_dnew ?_
  | refine s_din ?_
  | refine s_dnin ?_
  | refine s_dget ?_
  | refine s_dput ?_
  | refine s_forT ?_
  | refine s_brk ?_
  | refine s_cont ?_
  | refine s_fmtP ?_
  | refine s_forS ?_)
local macro_rules | `(tactic| walk_at "v") => `(tactic| first
  | ((with_reducible show rIx _ _ _ _ _); first  | (refine w_ixM (by walk_at "hp") (by walk_at "num") (by walk_at "num") ?_) | (refine w_ixQ (by assumption) (by walk_at "num") (by walk_at "num") ?_) | (refine w_ixL (by walk_at "hp") (by walk_at "num") (by first | rfl | assumption) ?_) | (refine w_ixT (by walk_at "hp") (by walk_at "num") (by first | rfl | assumption) ?_) | (refine w_ixNeg (by walk_at "hp") (by walk_at "num") (by walk_at "num") ?_))
  | (with_reducible refine w_I0 ?_)
  | ((with_reducible show rI _ _ _ _ _ _); first  | (refine w_I (by walk_at "num") ?_))
  | (with_reducible refine w_B ?_)
  | (with_reducible refine w_truB ?_)
  | (with_reducible refine w_addI ?_)
  | ((with_reducible show aAdd _ _ _ _); first  | (refine w_addL1 (by walk_at "hp") (by walk_at "hp") (by walk_at "num") ?_) | (refine w_addR1 (by walk_at "hp") (by walk_at "hp") (by walk_at "num") ?_) | (refine w_addLM (by walk_at "hp") (by walk_at "hp") (by walk_at "num") ?_) | (refine w_addL (by walk_at "hp") (by walk_at "hp") (by walk_at "num") ?_) | (refine w_addS (by walk_at "num") ?_))
  | (with_reducible refine w_eqI ?_)
  | (with_reducible refine w_neI ?_)
  | (with_reducible refine w_eqB ?_)
  | (with_reducible refine w_neB ?_)
  | (with_reducible refine w_eqS ?_)
  | (with_reducible refine w_neS ?_)
  | ((with_reducible show rIsG _ _ _ _ _ _ _); first  | (refine w_isG (by walk_at "hp") (by walk_at "ef") (by walk_at "et") ?_) | (refine w_isGv (by walk_at "hp") (by walk_at "ef") (by walk_at "et") ?_))
  | ((with_reducible show aXf _ _ _ _ _ _ _ _); first  | (refine w_xf (by walk_at "hp") (by walk_at "ef") (by walk_at "fi") (by rfl) ?_))
  | ((with_reducible show rIn _ false _ _ _ _); first  | (refine w_inI (by walk_at "hp") ?_) | (refine w_inS (by walk_at "hp") ?_) | (refine w_inB (by walk_at "hp") ?_) | (refine w_inST (by walk_at "hp") ?_))
  | ((with_reducible show aFmtP _ _ _); first  | (refine w_fmtP (by walk_at "num") ?_))
  | ((with_reducible show rNotInS _ _ _ _); first  | (refine w_notInC ?_))
  | ((with_reducible show rLeT _ _ _ _ _); first  | (refine w_leT2 (by walk_at "hp") (by walk_at "hp") ?_))
  | ((with_reducible show rIn _ true _ _ _ _); first  | (refine w_notInI (by walk_at "hp") ?_) | (refine w_notInS (by walk_at "hp") ?_) | (refine w_notInB (by walk_at "hp") ?_) | (refine w_notInST (by walk_at "hp") ?_))
  | ((with_reducible show aEq _ _ _ _ _); first  | (refine w_eqLI' (by walk_at "hp") (by walk_at "hp") ?_) | (refine w_eqLI0 (by walk_at "hp") (by walk_at "hp") ?_))
  | ((with_reducible show aNe _ _ _ _ _); first  | (refine w_neLI' (by walk_at "hp") (by walk_at "hp") ?_) | (refine w_neLI0 (by walk_at "hp") (by walk_at "hp") ?_))
  | (with_reducible refine w_truI ?_)
  | (with_reducible refine w_truN ?_)
  | ((with_reducible show aTru _ _ _ _); first  | (refine w_truL (by walk_at "hp") ?_) | (refine w_truT (by walk_at "hp") ?_))
  | ((with_reducible show rSetL _ _ _ _ _); first  | (refine w_setMI (by walk_at "hp") (by walk_at "num") (by walk_at "num") ?_) | (refine w_setMB (by walk_at "hp") (by walk_at "num") (by walk_at "num") ?_) | (refine w_setMS (by walk_at "hp") (by walk_at "num") (by walk_at "num") ?_) | (refine w_setL (by walk_at "hp") (by walk_at "num") (by walk_at "num") ?_))
  | ((with_reducible show aMul _ _ _ _); first  | (refine w_mulI (by walk_at "num") ?_) | (refine w_repI (by walk_at "hp") (by walk_at "num") (by walk_at "num") (by walk_at "num") ?_) | (refine w_repB (by walk_at "hp") (by walk_at "num") (by walk_at "num") (by walk_at "num") ?_))
  | ((with_reducible show tyV _ _ _ _ ∧ _); first  | (refine w_tyL (by walk_at "hp") ?_) | (refine w_tyS ?_))
  | ((with_reducible show rAppend _ _ _ _); first  | (refine w_appMI (by walk_at "hp") (by walk_at "num") ?_) | (refine w_appMS (by walk_at "hp") (by walk_at "num") ?_) | (refine w_appMB (by walk_at "hp") (by walk_at "num") ?_) | (refine w_appL (by walk_at "hp") (by walk_at "num") ?_))
  | ((with_reducible show rLen _ _ _ _); first  | (refine w_lenM (by walk_at "hp") ?_) | (refine w_lenQ (by assumption) ?_) | (refine w_lenL (by walk_at "hp") ?_) | (refine w_lenT (by walk_at "hp") ?_) | (refine w_lenS (by walk_at "num") ?_))
  | ((with_reducible show rSum _ _ _ _); first  | (refine w_sum (by walk_at "hp") ?_))
  | ((with_reducible show rAll _ _ _ _); first  | (refine w_all (by walk_at "hp") ?_))
  | ((with_reducible show rIsC _ _ _ _); first  | (refine w_isC (by walk_at "hp") ?_))
  | ((with_reducible show rTupOf _ _ _ _); first  | (refine w_tupOf (by walk_at "hp") ?_))
  | (with_reducible refine w_isB ?_)
  | (with_reducible refine w_notB ?_)
  | ((with_reducible show gTup _ _ _ _ _ _ _); first  | (refine w_gTup (by walk_at "hp") rfl ?_))
  | (with_reducible refine w_gCons ?_)
  | (with_reducible refine w_gNil ?_)
  | (with_reducible refine w_abs ?_)
  | (with_reducible refine w_int ?_)
  | ((with_reducible show _ ≤ sizeLine ∧ _); first  | (refine w_new (by walk_at "num") ?_))
  | (with_reducible refine w_U ?_)
  | ((with_reducible show rSlA _ _ _ _ _ _); first  | (refine w_slM (by walk_at "hp") ?_) | (refine w_slL (by walk_at "hp") ?_) | (refine w_slS (by walk_at "num") ?_) | (refine w_slQ (by assumption) ?_))
  | (with_reducible refine w_part ?_)
  | ((with_reducible show rListOf _ _ _ _); first  | (refine w_listL (by walk_at "hp") ?_) | (refine w_listT (by walk_at "hp") ?_))
  | ((with_reducible show rInsert _ _ _ _); first  | (refine w_insMI (by walk_at "hp") (by walk_at "num") (by walk_at "num") (by walk_at "num") ?_) | (refine w_insMS (by walk_at "hp") (by walk_at "num") (by walk_at "num") (by walk_at "num") ?_))
  | ((with_reducible show rReverse _ _ _ _); first  | (refine w_rev (by walk_at "hp") ?_))
  | ((with_reducible show rIsi _ _ _ _); first  | (with_reducible refine w_isiI kb_ii ?_) | (with_reducible refine w_isiI kb_ib ?_) | (with_reducible refine w_isiI kb_is ?_) | (with_reducible refine w_isiI kb_il ?_) | (with_reducible refine w_isiI kb_it ?_) | (with_reducible refine w_isiB kb_bi ?_) | (with_reducible refine w_isiB kb_bb ?_) | (with_reducible refine w_isiB kb_bt ?_) | (with_reducible refine w_isiS kb_ss ?_) | (with_reducible refine w_isiS kb_si ?_) | (with_reducible refine w_isiS kb_st ?_) | (with_reducible refine w_isiS kb_sl ?_) | (with_reducible refine w_isiN kb_nt ?_) | (with_reducible refine w_isiN kb_ni ?_) | (with_reducible refine w_isiN kb_nl ?_) | (with_reducible refine w_isiN kb_ns ?_) | (refine w_isiL (by walk_at "hp") kb_ll ?_) | (refine w_isiT (by walk_at "hp") kb_tt ?_) | (refine w_isiL (by walk_at "hp") kb_lt ?_) | (refine w_isiL (by walk_at "hp") kb_li ?_) | (refine w_isiT (by walk_at "hp") kb_tl ?_))
  | ((with_reducible show aFld _ _ _ _ _); first  | (refine w_fld (by walk_at "hp") (by walk_at "cl") (by walk_at "na") (by rfl) ?_))
  | ((with_reducible show aSFld _ _ _ _ _ _); first  | (refine w_sfld (by walk_at "hp") (by walk_at "cl") (by walk_at "na") (by simp) (by walk_at "put") ?_))
  | ((with_reducible show aMeth _ _ _ _ _); first  | (refine w_meth (by walk_at "hp") (by rfl) ?_))
  | ((with_reducible show aCVal _ _ _ _ _); first  | (refine w_cval (by walk_at "rd") (by walk_at "cv") ?_))
  | ((with_reducible show rJoin _ _ _ _ _); first  | (refine w_join (by walk_at "hp") (by walk_at "num") ?_))
  | ((with_reducible show rSplit _ _ _ _); first  | (refine w_split (by decide) (by walk_at "num") ?_))
  | ((with_reducible show aDIn _ _ _ _); first  | (refine w_dinI (by walk_at "hp") ?_))
  | ((with_reducible show aDNin _ _ _ _); first  | (refine w_dninI (by walk_at "hp") ?_))
  | ((with_reducible show aDPut _ _ _ _ _); first  | (refine w_dputI (by walk_at "hp") (by walk_at "num") ?_))
  | ((with_reducible show rCatT _ _ _ _ _); first  | (refine w_catT (by walk_at "hp") (by walk_at "hp") (by first | exact List.cons_ne_nil _ _ | exact mapNe (by assumption)) (by first | exact List.cons_ne_nil _ _ | exact mapNe (by assumption)) (by walk_at "num") ?_))
  | ((with_reducible show rPopAt _ _ _ _); first  | (refine w_popM (by walk_at "hp") (by walk_at "num") ?_))
  | (with_reducible refine w_digit ?_)
  | (with_reducible refine w_ascii ?_)
  | ((with_reducible show rIntA _ _ _); first  | (with_reducible refine w_intA ?_) | (with_reducible refine w_intB ?_))
  | ((with_reducible show rStrI _ _ _); first  | (refine w_strI (by walk_at "lg") ?_))
  | (with_reducible refine w_rngV ?_)
  | ((with_reducible show aRgL _ _ _ _); first  | (refine w_rgL ⟨(by walk_at "num"), (by walk_at "num"), (by walk_at "num"), (by walk_at "num"), (by walk_at "num")⟩ ?_))
  | (with_reducible refine w_max2 ?_)
  | (with_reducible refine w_min2 ?_)
  | ((with_reducible show aIsN _ _ _ _); first  | (with_reducible refine w_isN_n ?_) | (with_reducible refine w_isN_i ?_) | (with_reducible refine w_isN_r ?_) | (with_reducible refine w_isN_s ?_))
  | ((with_reducible show aNotN _ _ _ _); first  | (with_reducible refine w_notN_n ?_) | (with_reducible refine w_notN_i ?_) | (with_reducible refine w_notN_r ?_) | (with_reducible refine w_notN_s ?_)))
local macro_rules | `(tactic| walk_at "i") => `(tactic| first
  | (with_reducible refine w_ite1 ?_)
  | (with_reducible refine w_ite0 ?_)
  | ((with_reducible refine w_iteT ?_ ?_); (· walk_at "tst"))
  | ((with_reducible refine w_iteF ?_ ?_); (· walk_at "tst"))
  | ((with_reducible refine w_iteNT ?_ ?_); (· walk_at "tst"))
  | ((with_reducible refine w_iteNF ?_ ?_); (· walk_at "tst"))
  | ((with_reducible refine w_itebT ?_ ?_); (· walk_at "tst"))
  | ((with_reducible refine w_itebF ?_ ?_); (· walk_at "tst"))
  | ((with_reducible refine w_itenbT ?_ ?_); (· walk_at "tst"))
  | ((with_reducible refine w_itenbF ?_ ?_); (· walk_at "tst")))
local macro_rules | `(tactic| walk_at "w") => `(tactic| repeat (first | walk_at "s" | walk_at "v" | walk_at "i" | (with_reducible dsimp only)))
def top (i : Nat) : Stmt := PySem.Challenge.pw_latelink_k00_log_texts.main.body.getD i (.Pass ⟨0, 0, 0, 0⟩)
abbrev s_is_number : Stmt := top 10
abbrev s_format_log : Stmt := top 11
abbrev s_parse_log : Stmt := top 12
abbrev s__law_box : Stmt := top 14
abbrev s__law_draw : Stmt := top 15
abbrev s__law_is : Stmt := top 16
abbrev s__law_integers : Stmt := top 17
abbrev s__law_node : Stmt := top 18
abbrev s__law_log : Stmt := top 19
abbrev s__law_word : Stmt := top 20
abbrev s__law_sign : Stmt := top 21
abbrev s__law_odd_word : Stmt := top 22
abbrev s__law_spoilt : Stmt := top 23
abbrev s__law_number : Stmt := top 24
abbrev s__law_read : Stmt := top 25
abbrev s__law_parse_right : Stmt := top 26
abbrev s__law_format_right : Stmt := top 27
abbrev s__law_zero_refused : Stmt := top 28
abbrev s_law : Stmt := top 29
abbrev s_BadOperation___init__ : Stmt := inClass (top 3) 0
abbrev s_Illegal___init__ : Stmt := inClass (top 4) 0
abbrev s_Refused___init__ : Stmt := inClass (top 5) 0
abbrev s_BadText___init__ : Stmt := inClass (top 6) 0
abbrev s_BadDump___init__ : Stmt := inClass (top 7) 0
/-- where things stand -/
structure AD where
  f_is_number : Addr
  f_format_log : Addr
  f_parse_log : Addr
  f__law_box : Addr
  f__law_draw : Addr
  f__law_is : Addr
  f__law_integers : Addr
  f__law_node : Addr
  f__law_log : Addr
  f__law_word : Addr
  f__law_sign : Addr
  f__law_odd_word : Addr
  f__law_spoilt : Addr
  f__law_number : Addr
  f__law_read : Addr
  f__law_parse_right : Addr
  f__law_format_right : Addr
  f__law_zero_refused : Addr
  f_law : Addr
  LinkError : Addr
  LogError : Addr
  BadOperation : Addr
  i_BadOperation : Addr
  Illegal : Addr
  i_Illegal : Addr
  Refused : Addr
  i_Refused : Addr
  BadText : Addr
  i_BadText : Addr
  BadDump : Addr
  i_BadDump : Addr
structure Txt (P : Program) (K : PySem.W.Frag) (mg : Str → Option Value) (a : AD) : Prop where
  n_is_number : Nm K mg "is_number" a.f_is_number
  F_is_number : ∃ fd, Fun K "is_number" "is_number" s_is_number a.f_is_number fd ∧ Binds K fd ["word"] []
  n_format_log : Nm K mg "format_log" a.f_format_log
  F_format_log : ∃ fd, Fun K "format_log" "format_log" s_format_log a.f_format_log fd ∧ Binds K fd ["log"] []
  n_parse_log : Nm K mg "parse_log" a.f_parse_log
  F_parse_log : ∃ fd, Fun K "parse_log" "parse_log" s_parse_log a.f_parse_log fd ∧ Binds K fd ["text"] []
  n__law_box : Nm K mg "_law_box" a.f__law_box
  F__law_box : ∃ fd, Fun K "_law_box" "_law_box" s__law_box a.f__law_box fd ∧ Binds K fd ["_law_script"] []
  n__law_draw : Nm K mg "_law_draw" a.f__law_draw
  F__law_draw : ∃ fd, Fun K "_law_draw" "_law_draw" s__law_draw a.f__law_draw fd ∧ Binds K fd ["_law_box_here", "_law_many"] []
  n__law_is : Nm K mg "_law_is" a.f__law_is
  F__law_is : ∃ fd, Fun K "_law_is" "_law_is" s__law_is a.f__law_is fd ∧ Binds K fd ["_law_told", "_law_due"] []
  n__law_integers : Nm K mg "_law_integers" a.f__law_integers
  F__law_integers : ∃ fd, Fun K "_law_integers" "_law_integers" s__law_integers a.f__law_integers fd ∧ Binds K fd ["_law_told", "_law_due"] []
  n__law_node : Nm K mg "_law_node" a.f__law_node
  F__law_node : ∃ fd, Fun K "_law_node" "_law_node" s__law_node a.f__law_node fd ∧ Binds K fd ["_law_box_here"] []
  n__law_log : Nm K mg "_law_log" a.f__law_log
  F__law_log : ∃ fd, Fun K "_law_log" "_law_log" s__law_log a.f__law_log fd ∧ Binds K fd ["_law_box_here"] []
  n__law_word : Nm K mg "_law_word" a.f__law_word
  F__law_word : ∃ fd, Fun K "_law_word" "_law_word" s__law_word a.f__law_word fd ∧ Binds K fd ["_law_operation"] []
  n__law_sign : Nm K mg "_law_sign" a.f__law_sign
  F__law_sign : ∃ fd, Fun K "_law_sign" "_law_sign" s__law_sign a.f__law_sign fd ∧ Binds K fd ["_law_box_here"] []
  n__law_odd_word : Nm K mg "_law_odd_word" a.f__law_odd_word
  F__law_odd_word : ∃ fd, Fun K "_law_odd_word" "_law_odd_word" s__law_odd_word a.f__law_odd_word fd ∧ Binds K fd ["_law_box_here", "_law_word_here"] []
  n__law_spoilt : Nm K mg "_law_spoilt" a.f__law_spoilt
  F__law_spoilt : ∃ fd, Fun K "_law_spoilt" "_law_spoilt" s__law_spoilt a.f__law_spoilt fd ∧ Binds K fd ["_law_box_here", "_law_text"] []
  n__law_number : Nm K mg "_law_number" a.f__law_number
  F__law_number : ∃ fd, Fun K "_law_number" "_law_number" s__law_number a.f__law_number fd ∧ Binds K fd ["_law_digits"] []
  n__law_read : Nm K mg "_law_read" a.f__law_read
  F__law_read : ∃ fd, Fun K "_law_read" "_law_read" s__law_read a.f__law_read fd ∧ Binds K fd ["_law_text"] []
  n__law_parse_right : Nm K mg "_law_parse_right" a.f__law_parse_right
  F__law_parse_right : ∃ fd, Fun K "_law_parse_right" "_law_parse_right" s__law_parse_right a.f__law_parse_right fd ∧ Binds K fd ["_law_text", "_law_due"] []
  n__law_format_right : Nm K mg "_law_format_right" a.f__law_format_right
  F__law_format_right : ∃ fd, Fun K "_law_format_right" "_law_format_right" s__law_format_right a.f__law_format_right fd ∧ Binds K fd ["_law_log_here", "_law_text"] []
  n__law_zero_refused : Nm K mg "_law_zero_refused" a.f__law_zero_refused
  F__law_zero_refused : ∃ fd, Fun K "_law_zero_refused" "_law_zero_refused" s__law_zero_refused a.f__law_zero_refused fd ∧ Binds K fd ["_law_log_here", "_law_place", "_law_more"] []
  n_law : Nm K mg "law" a.f_law
  F_law : ∃ fd, Fun K "law" "law" s_law a.f_law fd ∧ Binds K fd ["_law_script"] []
  c_LinkError : mg "LinkError" = some (.ref a.LinkError)
  c_LogError : mg "LogError" = some (.ref a.LogError)
  c_BadOperation : mg "BadOperation" = some (.ref a.BadOperation)
  x_BadOperation : LkX.ExcTxt P K a.BadOperation a.i_BadOperation ["operation", "index"]
  e_BadOperation : ExcC K a.BadOperation ∧ XfC K a.BadOperation
  c_Illegal : mg "Illegal" = some (.ref a.Illegal)
  x_Illegal : LkX.ExcTxt P K a.Illegal a.i_Illegal ["operation", "index"]
  e_Illegal : ExcC K a.Illegal ∧ XfC K a.Illegal
  c_Refused : mg "Refused" = some (.ref a.Refused)
  x_Refused : LkX.ExcTxt P K a.Refused a.i_Refused ["operation", "index", "refusing"]
  e_Refused : ExcC K a.Refused ∧ XfC K a.Refused
  c_BadText : mg "BadText" = some (.ref a.BadText)
  x_BadText : LkX.ExcTxt P K a.BadText a.i_BadText ["place"]
  e_BadText : ExcC K a.BadText ∧ XfC K a.BadText
  c_BadDump : mg "BadDump" = some (.ref a.BadDump)
  x_BadDump : LkX.ExcTxt P K a.BadDump a.i_BadDump ["part"]
  e_BadDump : ExcC K a.BadDump ∧ XfC K a.BadDump
  t_BadOperation_LinkError : PySem.W.kitOne K (.ref a.BadOperation) (.ref a.LinkError) = some true ∧ PySem.W.exmOne K (.ref a.BadOperation) (.ref a.LinkError) = some true
  t_BadOperation_LogError : PySem.W.kitOne K (.ref a.BadOperation) (.ref a.LogError) = some true ∧ PySem.W.exmOne K (.ref a.BadOperation) (.ref a.LogError) = some true
  t_BadOperation_BadOperation : PySem.W.kitOne K (.ref a.BadOperation) (.ref a.BadOperation) = some true ∧ PySem.W.exmOne K (.ref a.BadOperation) (.ref a.BadOperation) = some true
  t_BadOperation_Illegal : PySem.W.kitOne K (.ref a.BadOperation) (.ref a.Illegal) = some false ∧ PySem.W.exmOne K (.ref a.BadOperation) (.ref a.Illegal) = some false
  t_BadOperation_Refused : PySem.W.kitOne K (.ref a.BadOperation) (.ref a.Refused) = some false ∧ PySem.W.exmOne K (.ref a.BadOperation) (.ref a.Refused) = some false
  t_BadOperation_BadText : PySem.W.kitOne K (.ref a.BadOperation) (.ref a.BadText) = some false ∧ PySem.W.exmOne K (.ref a.BadOperation) (.ref a.BadText) = some false
  t_BadOperation_BadDump : PySem.W.kitOne K (.ref a.BadOperation) (.ref a.BadDump) = some false ∧ PySem.W.exmOne K (.ref a.BadOperation) (.ref a.BadDump) = some false
  v_BadOperation : PySem.W.kitOne K (.ref a.BadOperation) (.type "ValueError") = some true
  t_Illegal_LinkError : PySem.W.kitOne K (.ref a.Illegal) (.ref a.LinkError) = some true ∧ PySem.W.exmOne K (.ref a.Illegal) (.ref a.LinkError) = some true
  t_Illegal_LogError : PySem.W.kitOne K (.ref a.Illegal) (.ref a.LogError) = some true ∧ PySem.W.exmOne K (.ref a.Illegal) (.ref a.LogError) = some true
  t_Illegal_BadOperation : PySem.W.kitOne K (.ref a.Illegal) (.ref a.BadOperation) = some false ∧ PySem.W.exmOne K (.ref a.Illegal) (.ref a.BadOperation) = some false
  t_Illegal_Illegal : PySem.W.kitOne K (.ref a.Illegal) (.ref a.Illegal) = some true ∧ PySem.W.exmOne K (.ref a.Illegal) (.ref a.Illegal) = some true
  t_Illegal_Refused : PySem.W.kitOne K (.ref a.Illegal) (.ref a.Refused) = some false ∧ PySem.W.exmOne K (.ref a.Illegal) (.ref a.Refused) = some false
  t_Illegal_BadText : PySem.W.kitOne K (.ref a.Illegal) (.ref a.BadText) = some false ∧ PySem.W.exmOne K (.ref a.Illegal) (.ref a.BadText) = some false
  t_Illegal_BadDump : PySem.W.kitOne K (.ref a.Illegal) (.ref a.BadDump) = some false ∧ PySem.W.exmOne K (.ref a.Illegal) (.ref a.BadDump) = some false
  v_Illegal : PySem.W.kitOne K (.ref a.Illegal) (.type "ValueError") = some true
  t_Refused_LinkError : PySem.W.kitOne K (.ref a.Refused) (.ref a.LinkError) = some true ∧ PySem.W.exmOne K (.ref a.Refused) (.ref a.LinkError) = some true
  t_Refused_LogError : PySem.W.kitOne K (.ref a.Refused) (.ref a.LogError) = some true ∧ PySem.W.exmOne K (.ref a.Refused) (.ref a.LogError) = some true
  t_Refused_BadOperation : PySem.W.kitOne K (.ref a.Refused) (.ref a.BadOperation) = some false ∧ PySem.W.exmOne K (.ref a.Refused) (.ref a.BadOperation) = some false
  t_Refused_Illegal : PySem.W.kitOne K (.ref a.Refused) (.ref a.Illegal) = some false ∧ PySem.W.exmOne K (.ref a.Refused) (.ref a.Illegal) = some false
  t_Refused_Refused : PySem.W.kitOne K (.ref a.Refused) (.ref a.Refused) = some true ∧ PySem.W.exmOne K (.ref a.Refused) (.ref a.Refused) = some true
  t_Refused_BadText : PySem.W.kitOne K (.ref a.Refused) (.ref a.BadText) = some false ∧ PySem.W.exmOne K (.ref a.Refused) (.ref a.BadText) = some false
  t_Refused_BadDump : PySem.W.kitOne K (.ref a.Refused) (.ref a.BadDump) = some false ∧ PySem.W.exmOne K (.ref a.Refused) (.ref a.BadDump) = some false
  v_Refused : PySem.W.kitOne K (.ref a.Refused) (.type "ValueError") = some true
  t_BadText_LinkError : PySem.W.kitOne K (.ref a.BadText) (.ref a.LinkError) = some true ∧ PySem.W.exmOne K (.ref a.BadText) (.ref a.LinkError) = some true
  t_BadText_LogError : PySem.W.kitOne K (.ref a.BadText) (.ref a.LogError) = some false ∧ PySem.W.exmOne K (.ref a.BadText) (.ref a.LogError) = some false
  t_BadText_BadOperation : PySem.W.kitOne K (.ref a.BadText) (.ref a.BadOperation) = some false ∧ PySem.W.exmOne K (.ref a.BadText) (.ref a.BadOperation) = some false
  t_BadText_Illegal : PySem.W.kitOne K (.ref a.BadText) (.ref a.Illegal) = some false ∧ PySem.W.exmOne K (.ref a.BadText) (.ref a.Illegal) = some false
  t_BadText_Refused : PySem.W.kitOne K (.ref a.BadText) (.ref a.Refused) = some false ∧ PySem.W.exmOne K (.ref a.BadText) (.ref a.Refused) = some false
  t_BadText_BadText : PySem.W.kitOne K (.ref a.BadText) (.ref a.BadText) = some true ∧ PySem.W.exmOne K (.ref a.BadText) (.ref a.BadText) = some true
  t_BadText_BadDump : PySem.W.kitOne K (.ref a.BadText) (.ref a.BadDump) = some false ∧ PySem.W.exmOne K (.ref a.BadText) (.ref a.BadDump) = some false
  v_BadText : PySem.W.kitOne K (.ref a.BadText) (.type "ValueError") = some true
  t_BadDump_LinkError : PySem.W.kitOne K (.ref a.BadDump) (.ref a.LinkError) = some true ∧ PySem.W.exmOne K (.ref a.BadDump) (.ref a.LinkError) = some true
  t_BadDump_LogError : PySem.W.kitOne K (.ref a.BadDump) (.ref a.LogError) = some false ∧ PySem.W.exmOne K (.ref a.BadDump) (.ref a.LogError) = some false
  t_BadDump_BadOperation : PySem.W.kitOne K (.ref a.BadDump) (.ref a.BadOperation) = some false ∧ PySem.W.exmOne K (.ref a.BadDump) (.ref a.BadOperation) = some false
  t_BadDump_Illegal : PySem.W.kitOne K (.ref a.BadDump) (.ref a.Illegal) = some false ∧ PySem.W.exmOne K (.ref a.BadDump) (.ref a.Illegal) = some false
  t_BadDump_Refused : PySem.W.kitOne K (.ref a.BadDump) (.ref a.Refused) = some false ∧ PySem.W.exmOne K (.ref a.BadDump) (.ref a.Refused) = some false
  t_BadDump_BadText : PySem.W.kitOne K (.ref a.BadDump) (.ref a.BadText) = some false ∧ PySem.W.exmOne K (.ref a.BadDump) (.ref a.BadText) = some false
  t_BadDump_BadDump : PySem.W.kitOne K (.ref a.BadDump) (.ref a.BadDump) = some true ∧ PySem.W.exmOne K (.ref a.BadDump) (.ref a.BadDump) = some true
  v_BadDump : PySem.W.kitOne K (.ref a.BadDump) (.type "ValueError") = some true
  b_ValueError : mg "ValueError" = none
  b_enumerate : mg "enumerate" = none
  b_range : mg "range" = none
  b_int : mg "int" = none
  b_list : mg "list" = none
  b_isinstance : mg "isinstance" = none
  b_len : mg "len" = none
  b_str : mg "str" = none
  b_bool : mg "bool" = none
  b_super : mg "super" = none
  k_MOST_DIGITS : ∃ t, mg "MOST_DIGITS" = some (.int 9 t)
def xBadOperation (a : AD) (v0 : V) (v1 : V) (E : XK) (H : Hp) : Prop := ∀ d H', H d = none → H' d = some (.xd [("operation", v0), ("index", v1)]) → Kp [] H H' → E (.ref a.BadOperation) (some d) H'
def xIllegal (a : AD) (v0 : V) (v1 : V) (E : XK) (H : Hp) : Prop := ∀ d H', H d = none → H' d = some (.xd [("operation", v0), ("index", v1)]) → Kp [] H H' → E (.ref a.Illegal) (some d) H'
def xRefused (a : AD) (v0 : V) (v1 : V) (v2 : V) (E : XK) (H : Hp) : Prop := ∀ d H', H d = none → H' d = some (.xd [("operation", v0), ("index", v1), ("refusing", v2)]) → Kp [] H H' → E (.ref a.Refused) (some d) H'
def xBadText (a : AD) (v0 : V) (E : XK) (H : Hp) : Prop := ∀ d H', H d = none → H' d = some (.xd [("place", v0)]) → Kp [] H H' → E (.ref a.BadText) (some d) H'
def xBadDump (a : AD) (v0 : V) (E : XK) (H : Hp) : Prop := ∀ d H', H d = none → H' d = some (.xd [("part", v0)]) → Kp [] H H' → E (.ref a.BadDump) (some d) H'
local macro_rules | `(tactic| walk_at "ef") => `(tactic| with_reducible first | exact (Txt.e_BadOperation (by assumption)).1 | exact (Txt.e_BadOperation (by assumption)).2 | exact (Txt.e_Illegal (by assumption)).1 | exact (Txt.e_Illegal (by assumption)).2 | exact (Txt.e_Refused (by assumption)).1 | exact (Txt.e_Refused (by assumption)).2 | exact (Txt.e_BadText (by assumption)).1 | exact (Txt.e_BadText (by assumption)).2 | exact (Txt.e_BadDump (by assumption)).1 | exact (Txt.e_BadDump (by assumption)).2)
local macro_rules | `(tactic| walk_at "et") => `(tactic| with_reducible first | exact Txt.v_BadOperation (by assumption) | exact (Txt.t_BadOperation_LinkError (by assumption)).1 | exact (Txt.t_BadOperation_LogError (by assumption)).1 | exact (Txt.t_BadOperation_BadOperation (by assumption)).1 | exact (Txt.t_BadOperation_Illegal (by assumption)).1 | exact (Txt.t_BadOperation_Refused (by assumption)).1 | exact (Txt.t_BadOperation_BadText (by assumption)).1 | exact (Txt.t_BadOperation_BadDump (by assumption)).1 | exact Txt.v_Illegal (by assumption) | exact (Txt.t_Illegal_LinkError (by assumption)).1 | exact (Txt.t_Illegal_LogError (by assumption)).1 | exact (Txt.t_Illegal_BadOperation (by assumption)).1 | exact (Txt.t_Illegal_Illegal (by assumption)).1 | exact (Txt.t_Illegal_Refused (by assumption)).1 | exact (Txt.t_Illegal_BadText (by assumption)).1 | exact (Txt.t_Illegal_BadDump (by assumption)).1 | exact Txt.v_Refused (by assumption) | exact (Txt.t_Refused_LinkError (by assumption)).1 | exact (Txt.t_Refused_LogError (by assumption)).1 | exact (Txt.t_Refused_BadOperation (by assumption)).1 | exact (Txt.t_Refused_Illegal (by assumption)).1 | exact (Txt.t_Refused_Refused (by assumption)).1 | exact (Txt.t_Refused_BadText (by assumption)).1 | exact (Txt.t_Refused_BadDump (by assumption)).1 | exact Txt.v_BadText (by assumption) | exact (Txt.t_BadText_LinkError (by assumption)).1 | exact (Txt.t_BadText_LogError (by assumption)).1 | exact (Txt.t_BadText_BadOperation (by assumption)).1 | exact (Txt.t_BadText_Illegal (by assumption)).1 | exact (Txt.t_BadText_Refused (by assumption)).1 | exact (Txt.t_BadText_BadText (by assumption)).1 | exact (Txt.t_BadText_BadDump (by assumption)).1 | exact Txt.v_BadDump (by assumption) | exact (Txt.t_BadDump_LinkError (by assumption)).1 | exact (Txt.t_BadDump_LogError (by assumption)).1 | exact (Txt.t_BadDump_BadOperation (by assumption)).1 | exact (Txt.t_BadDump_Illegal (by assumption)).1 | exact (Txt.t_BadDump_Refused (by assumption)).1 | exact (Txt.t_BadDump_BadText (by assumption)).1 | exact (Txt.t_BadDump_BadDump (by assumption)).1)
local macro_rules | `(tactic| walk_at "fi") => `(tactic| with_reducible first | exact (Txt.x_BadOperation (by assumption)).noN _ (by decide) | exact (Txt.x_Illegal (by assumption)).noN _ (by decide) | exact (Txt.x_Refused (by assumption)).noN _ (by decide) | exact (Txt.x_BadText (by assumption)).noN _ (by decide) | exact (Txt.x_BadDump (by assumption)).noN _ (by decide))
/-! ### texts of logs -/
def sp_is_number (a : AD) : Sp := fun vs H Q E => ∃ z : Str, vs = [.str z] ∧ z.length ≤ 1000000 ∧ Q (.bl (isNumW z)) H
theorem sc_is_number : FnScope ["word"] ["word"] (defScope s_is_number) := ⟨rfl, rfl, rfl, by decide +kernel, rfl, by decide +kernel, by decide +kernel⟩
theorem ok_is_number {P : Program} {w : World} {K : PySem.W.Frag} {mg : Str → Option Value} {base : Heap} {a : AD} (T : Txt P K mg a) : FnA P w K mg base 2 a.f_is_number ["word"] (sp_is_number a) := by
  obtain ⟨fd, F, b⟩ := T.F_is_number
  refine FnA.of F sc_is_number b (fun vs H Q E h => by first | (obtain ⟨rfl, _⟩ := h; rfl) | (obtain ⟨_, rfl, _⟩ := h; rfl) | (obtain ⟨_, _, rfl, _⟩ := h; rfl) | (obtain ⟨_, _, _, rfl, _⟩ := h; rfl) | (obtain ⟨_, _, _, _, rfl, _⟩ := h; rfl) | (obtain ⟨_, _, _, _, _, rfl, _⟩ := h; rfl) | (obtain ⟨_, _, _, _, _, _, rfl, _⟩ := h; rfl) | (obtain ⟨_, _, _, _, _, _, _, rfl, _⟩ := h; rfl) | (obtain ⟨_, _, _, _, _, _, _, _, rfl, _⟩ := h; rfl) | (obtain ⟨_, _, _, _, _, _, _, _, _, rfl, _⟩ := h; rfl) | (obtain ⟨_, _, _, _, _, _, _, _, _, _, rfl, _⟩ := h; rfl) | (obtain ⟨_, _, _, _, _, _, _, _, _, _, _, rfl, _⟩ := h; rfl) | (obtain ⟨_, _, _, _, _, _, _, _, _, _, _, _, rfl, _⟩ := h; rfl) | (obtain ⟨_, _, _, _, _, _, _, _, _, _, _, _, _, rfl, _⟩ := h; rfl) | (obtain ⟨_, _, _, _, _, _, _, _, _, _, _, _, _, _, rfl, _⟩ := h; rfl) | (obtain ⟨_, _, _, _, _, _, _, _, _, _, _, _, _, _, _, rfl, _⟩ := h; rfl) | (obtain ⟨_, _, _, _, _, _, _, _, _, _, _, _, _, _, _, _, rfl, _⟩ := h; rfl) | (obtain ⟨_, _, _, _, _, _, _, _, _, _, _, _, _, _, _, _, _, rfl, _⟩ := h; rfl) | (obtain ⟨_, _, _, _, _, _, _, _, _, _, _, _, _, _, _, _, _, _, rfl, _⟩ := h; rfl) | (obtain ⟨_, _, _, _, _, _, _, _, _, _, _, _, _, _, _, _, _, _, _, rfl, _⟩ := h; rfl) | (obtain ⟨_, _, _, _, _, _, _, _, _, _, _, _, _, _, _, _, _, _, _, _, rfl, _⟩ := h; rfl) | (obtain ⟨_, _, _, _, _, _, _, _, _, _, _, _, _, _, _, _, _, _, _, _, _, rfl, _⟩ := h; rfl) | (obtain ⟨_, _, _, _, _, _, _, _, _, _, _, _, _, _, _, _, _, _, _, _, _, _, rfl, _⟩ := h; rfl) | (obtain ⟨_, _, _, _, _, _, _, _, _, _, _, _, _, _, _, _, _, _, _, _, _, _, _, rfl, _⟩ := h; rfl)) (fun cdv A outer s H vs Q E hr tk pz h => ?_)
  have hu := hr.units
  have hrH := L2H.roomH_of hr
  obtain ⟨z, rfl, hz, k⟩ := h
  refine ⟨_, (pss_cons (ps_if (pt_not (PW.pt (pw_and (pt_tru (pe_bm0 PySem.F.plainAttrs_str PySem.F.slot_str_isascii PySem.F.type_str_isascii m_isascii (pv 0))) (pw_and1 (pt_tru (pe_bm0 PySem.F.plainAttrs_str PySem.F.slot_str_isdigit PySem.F.type_str_isdigit m_isdigit (pv 0))))))) (pss_one (ps_ret pe_bl)) pss_nil)
      (pss_one (ps_ret (pe_or (pe_cmpR (o_eq hu) (pv 0) pe_str (nomark _)) (pe_one (pe_and (pe_cmpR (o_ne hu) (pe_ix ix_seq (pv 0) pe_int (fun _ _ => rfl)) pe_str (nomark _)) (pe_one (pe_cmpR op_le (pe_callB (b_len) rfl T.b_len (by decide +kernel) (pa_cons (pv 0) pa_nil)) (T.k_MOST_DIGITS.elim fun t hm => pe_glob (v := .int 9) rfl hm ⟨t, rfl⟩) (nomark _))))))))), ?_⟩
  show (_ : Ends → L2.St → Hp → Prop) _ [some _] _
  try dsimp only [L2H.cxH, cxOf]
  walk_at "w"
  unfold isNumW at k
  refine w_iteb (fun c1 => ?_) (fun c1 => ?_)
  · walk_at "w"
    refine w_itenb (fun c2 => ?_) (fun c2 => ?_)
    · walk_at "w"
      rw [c1, c2] at k
      exact k
    · walk_at "w"
      obtain ⟨d, ne⟩ := num_digits c1 c2
      have hc : z.cps.toList[(0 : Int).toNat]? = some (z.cps.toList.getD 0 default) := by
        have : (TL.tl z) ≠ [] := ne
        cases e : z.cps.toList with
        | nil => exact absurd e this
        | cons c r => rfl
      rw [c1, c2] at k
      refine w_ite (fun c3 => ?_) (fun c3 => ?_)
      · rw [show decide (z = ("0" : Str)) = true by simpa using c3] at k
        exact k
      · rw [show decide (z = ("0" : Str)) = false by simpa using c3] at k
        walk_at "w"
        refine w_ixS (by rw [sizeLine_eq]; omega) (by omega) hc ?_
        walk_at "w"
        refine w_iteN (fun c4 => ?_) (fun c4 => ?_)
        · rw [show decide ((⟨#[z.cps.toList.getD 0 default]⟩ : Str) = ("0" : Str)) = false by simpa using c4] at k
          walk_at "w"
          exact k
        · rw [show decide ((⟨#[z.cps.toList.getD 0 default]⟩ : Str) = ("0" : Str)) = true by simpa using c4] at k
          walk_at "w"
          exact k
  · walk_at "w"
    rw [c1] at k
    exact k
theorem takeS {α : Type} {us : List α} {i : Nat} {u : α} (h : us[i]? = some u) : us.take (i + 1) = us.take i ++ [u] := by
  rw [List.take_succ, h]; rfl
def logOf (us : List Int) : Str := Txt.join " " (us.map strP)
theorem strP_sum : ∀ {us : List Int}, (∀ u ∈ us, u.natAbs < 10 ^ 18) → ((us.map strP).map (·.length)).sum ≤ 19 * us.length
  | [], _ => by simp
  | u :: us, h => by
    have i := strP_sum (us := us) (fun v hv => h v (List.mem_cons_of_mem _ hv))
    have := strP_len (h u List.mem_cons_self)
    simp only [List.map_cons, List.sum_cons, List.length_cons]
    omega
def sp_format_log (a : AD) : Sp := fun vs H Q E => ∃ (p : Addr) (us : List Int), vs = [.ref p] ∧ H p = some (.lst (us.map V.int)) ∧ us.length ≤ 1000 ∧ (∀ u ∈ us, u.natAbs < 1000000000000) ∧ (∀ i : Nat, us[i]? = some 0 → (∀ j : Nat, j < i → us[j]? ≠ some 0) → xBadOperation a (.int 0) (.int (i : Int)) E H) ∧ ((∀ u ∈ us, u ≠ 0) → ∀ H', Kp [] H H' → Q (.str (logOf us)) H')
theorem sc_format_log : FnScope ["log", "index", "operation"] ["log"] (defScope s_format_log) := ⟨rfl, rfl, rfl, by decide +kernel, rfl, by decide +kernel, by decide +kernel⟩
theorem ok_format_log {P : Program} {w : World} {K : PySem.W.Frag} {mg : Str → Option Value} {base : Heap} {a : AD} (T : Txt P K mg a) : FnA P w K mg base 2 a.f_format_log ["log"] (sp_format_log a) := by
  obtain ⟨fd, F, b⟩ := T.F_format_log
  refine FnA.of F sc_format_log b (fun vs H Q E h => by first | (obtain ⟨rfl, _⟩ := h; rfl) | (obtain ⟨_, rfl, _⟩ := h; rfl) | (obtain ⟨_, _, rfl, _⟩ := h; rfl) | (obtain ⟨_, _, _, rfl, _⟩ := h; rfl) | (obtain ⟨_, _, _, _, rfl, _⟩ := h; rfl) | (obtain ⟨_, _, _, _, _, rfl, _⟩ := h; rfl) | (obtain ⟨_, _, _, _, _, _, rfl, _⟩ := h; rfl) | (obtain ⟨_, _, _, _, _, _, _, rfl, _⟩ := h; rfl) | (obtain ⟨_, _, _, _, _, _, _, _, rfl, _⟩ := h; rfl) | (obtain ⟨_, _, _, _, _, _, _, _, _, rfl, _⟩ := h; rfl) | (obtain ⟨_, _, _, _, _, _, _, _, _, _, rfl, _⟩ := h; rfl) | (obtain ⟨_, _, _, _, _, _, _, _, _, _, _, rfl, _⟩ := h; rfl) | (obtain ⟨_, _, _, _, _, _, _, _, _, _, _, _, rfl, _⟩ := h; rfl) | (obtain ⟨_, _, _, _, _, _, _, _, _, _, _, _, _, rfl, _⟩ := h; rfl) | (obtain ⟨_, _, _, _, _, _, _, _, _, _, _, _, _, _, rfl, _⟩ := h; rfl) | (obtain ⟨_, _, _, _, _, _, _, _, _, _, _, _, _, _, _, rfl, _⟩ := h; rfl) | (obtain ⟨_, _, _, _, _, _, _, _, _, _, _, _, _, _, _, _, rfl, _⟩ := h; rfl) | (obtain ⟨_, _, _, _, _, _, _, _, _, _, _, _, _, _, _, _, _, rfl, _⟩ := h; rfl) | (obtain ⟨_, _, _, _, _, _, _, _, _, _, _, _, _, _, _, _, _, _, rfl, _⟩ := h; rfl) | (obtain ⟨_, _, _, _, _, _, _, _, _, _, _, _, _, _, _, _, _, _, _, rfl, _⟩ := h; rfl) | (obtain ⟨_, _, _, _, _, _, _, _, _, _, _, _, _, _, _, _, _, _, _, _, rfl, _⟩ := h; rfl) | (obtain ⟨_, _, _, _, _, _, _, _, _, _, _, _, _, _, _, _, _, _, _, _, _, rfl, _⟩ := h; rfl) | (obtain ⟨_, _, _, _, _, _, _, _, _, _, _, _, _, _, _, _, _, _, _, _, _, _, rfl, _⟩ := h; rfl) | (obtain ⟨_, _, _, _, _, _, _, _, _, _, _, _, _, _, _, _, _, _, _, _, _, _, _, rfl, _⟩ := h; rfl)) (fun cdv A outer s H vs Q E hr tk pz h => ?_)
  have hu := hr.units
  have hrH := L2H.roomH_of hr
  obtain ⟨p, us, rfl, hp, hl, hb, hx, k⟩ := h
  refine ⟨_, (pss_cons (ps_for pz rfl (pi_enum rfl T.b_enumerate (pa_cons (pv 0) pa_nil)) (pg_tup (n := 2) rfl (pgs_cons (pg_name (i := 1) sc_format_log.nd rfl (Or.inl rfl)) (pgs_cons (pg_name (i := 2) sc_format_log.nd rfl (Or.inl rfl)) pgs_nil)))
      (pss_one (ps_if (pt_cmpA (o_eq hu) (pv 2) pe_int (nomark _)) (pss_one (L2N.ps_raise rfl tk (Lk.pmk_own T.x_BadOperation (List.cons_ne_nil _ _) hr T.c_BadOperation (by exact (pa_cons (pv 2) (pa_cons (pv 1) pa_nil))) rfl))) pss_nil)))
      (pss_one (ps_ret (pe_bm PySem.F.plainAttrs_str PySem.F.slot_str_join PySem.F.type_str_join m_join pe_str (pa_cons (pe_lc (own := [("operation", 2)]) (g := (gName 2)) (tt := tYes) rfl sc_format_log.nd (pi_list (pv 0)) (blkOk_by (own := [("operation", 2)]) (N := ["log", "index", "operation"]) (sc := defScope s_format_log) (by decide +kernel)) (fun _ _ _ _ _ => (pg_name (i := 2) sc_format_log.nd rfl (Or.inl rfl))) (fun _ _ _ _ _ => pts_nil) (fun _ _ _ _ _ => (pe_joined1 (pe_fmtP (pv 2))))) pa_nil))))), ?_⟩
  show (_ : Ends → L2.St → Hp → Prop) _ [some _, none, none] _
  try dsimp only [L2H.cxH, cxOf]
  walk_at "w"
  refine w_enumM hp (fun i σ' H' => (∃ x y, σ' = [some (.ref p), x, y]) ∧ Kp [] H H' ∧ ∀ j : Nat, j < i → us[j]? ≠ some 0) ⟨⟨_, _, rfl⟩, Kp.refl, fun j hj => by omega⟩ (fun i σ' H' _ q => q.2.1.at0 hp) ?_ ?_
  · rintro i u T σ' H' hu ⟨⟨x, y, rfl⟩, hk, hno⟩ hT
    walk_at "w"
    refine w_ite (fun c => ?_) (fun c => ?_)
    · subst c
      walk_at "w"
      refine ⟨rfl, fun d hd => hx i hu hno d _ ((hk.new hT).free hd) upd_same ((hk.new hT).new hd)⟩
    · walk_at "w"
      refine ⟨⟨_, _, rfl⟩, hk.new hT, fun j hj z => ?_⟩
      by_cases q : j < i
      · exact hno j q z
      · obtain rfl : j = i := by omega
        rw [hu] at z
        cases z
        exact c rfl
  · rintro σ' H' ⟨⟨x, y, rfl⟩, hk, hno⟩
    have hp1 := hk.at0 hp
    have hnz : ∀ u ∈ us, u ≠ 0 := fun u hu z => by
      obtain ⟨j, hj, e⟩ := List.getElem_of_mem hu
      exact hno j hj (by rw [List.getElem?_eq_getElem hj, e, z])
    walk_at "w"
    refine w_lcM (us := us) (f := V.int) (f' := V.str) (fun x => some (strP x)) hp1 (by rw [sizeLine_eq]; omega) ?_ ?_
    · intro D j x acc H2 hD hx hk2 hA hlen
      have hb2 := hb x (List.mem_of_getElem? hx)
      walk_at "w"
      refine ⟨rfl, ?_⟩
      walk_at "w"
      exact w_keep hk2 hA hlen hD rfl
    · intro D H2 hD hk2 hA
      rw [fm_some] at hA
      walk_at "w"
      have hs := strP_sum (us := us) (fun u hu => by have := hb u hu; omega)
      refine w_join hA ?_ ?_
      · rw [List.length_map]
        show _ + us.length * 1 ≤ _
        omega
      · exact k hnz H2 (hk.trans0 hk2)
def LogIs (z : Str) (us : List Int) : Prop := (z = "" ∧ us = []) ∨ (z ≠ "" ∧ (∀ w ∈ wordsOf z, opW w = true) ∧ us = (wordsOf z).map opV)
def BadAt (z : Str) (i : Nat) : Prop := z ≠ "" ∧ ∃ w, (wordsOf z)[i]? = some w ∧ opW w = false ∧ ∀ (j : Nat) (w' : Str), j < i → (wordsOf z)[j]? = some w' → opW w' = true
def sp_parse_log (a : AD) : Sp := fun vs H Q E => ∃ z : Str, vs = [.str z] ∧ z.length ≤ 100000 ∧ (∀ i : Nat, BadAt z i → xBadText a (.int (i : Int)) E H) ∧ (∀ us r H', LogIs z us → H r = none → Kp [] H H' → H' r = some (.lst (us.map V.int)) → Q (.ref r) H')
theorem sc_parse_log : FnScope ["text", "log", "index", "word", "digits", "node"] ["text"] (defScope s_parse_log) := ⟨rfl, rfl, rfl, by decide +kernel, rfl, by decide +kernel, by decide +kernel⟩
theorem ok_parse_log {P : Program} {w : World} {K : PySem.W.Frag} {mg : Str → Option Value} {base : Heap} {a : AD} (T : Txt P K mg a) (G_is_number : FnA P w K mg base 2 a.f_is_number ["word"] (sp_is_number a)) : FnA P w K mg base 3 a.f_parse_log ["text"] (sp_parse_log a) := by
  obtain ⟨fd, F, b⟩ := T.F_parse_log
  refine FnA.of F sc_parse_log b (fun vs H Q E h => by first | (obtain ⟨rfl, _⟩ := h; rfl) | (obtain ⟨_, rfl, _⟩ := h; rfl) | (obtain ⟨_, _, rfl, _⟩ := h; rfl) | (obtain ⟨_, _, _, rfl, _⟩ := h; rfl) | (obtain ⟨_, _, _, _, rfl, _⟩ := h; rfl) | (obtain ⟨_, _, _, _, _, rfl, _⟩ := h; rfl) | (obtain ⟨_, _, _, _, _, _, rfl, _⟩ := h; rfl) | (obtain ⟨_, _, _, _, _, _, _, rfl, _⟩ := h; rfl) | (obtain ⟨_, _, _, _, _, _, _, _, rfl, _⟩ := h; rfl) | (obtain ⟨_, _, _, _, _, _, _, _, _, rfl, _⟩ := h; rfl) | (obtain ⟨_, _, _, _, _, _, _, _, _, _, rfl, _⟩ := h; rfl) | (obtain ⟨_, _, _, _, _, _, _, _, _, _, _, rfl, _⟩ := h; rfl) | (obtain ⟨_, _, _, _, _, _, _, _, _, _, _, _, rfl, _⟩ := h; rfl) | (obtain ⟨_, _, _, _, _, _, _, _, _, _, _, _, _, rfl, _⟩ := h; rfl) | (obtain ⟨_, _, _, _, _, _, _, _, _, _, _, _, _, _, rfl, _⟩ := h; rfl) | (obtain ⟨_, _, _, _, _, _, _, _, _, _, _, _, _, _, _, rfl, _⟩ := h; rfl) | (obtain ⟨_, _, _, _, _, _, _, _, _, _, _, _, _, _, _, _, rfl, _⟩ := h; rfl) | (obtain ⟨_, _, _, _, _, _, _, _, _, _, _, _, _, _, _, _, _, rfl, _⟩ := h; rfl) | (obtain ⟨_, _, _, _, _, _, _, _, _, _, _, _, _, _, _, _, _, _, rfl, _⟩ := h; rfl) | (obtain ⟨_, _, _, _, _, _, _, _, _, _, _, _, _, _, _, _, _, _, _, rfl, _⟩ := h; rfl) | (obtain ⟨_, _, _, _, _, _, _, _, _, _, _, _, _, _, _, _, _, _, _, _, rfl, _⟩ := h; rfl) | (obtain ⟨_, _, _, _, _, _, _, _, _, _, _, _, _, _, _, _, _, _, _, _, _, rfl, _⟩ := h; rfl) | (obtain ⟨_, _, _, _, _, _, _, _, _, _, _, _, _, _, _, _, _, _, _, _, _, _, rfl, _⟩ := h; rfl) | (obtain ⟨_, _, _, _, _, _, _, _, _, _, _, _, _, _, _, _, _, _, _, _, _, _, _, rfl, _⟩ := h; rfl)) (fun cdv A outer s H vs Q E hr tk pz h => ?_)
  have hu := hr.units
  have hrH := L2H.roomH_of hr
  obtain ⟨z, rfl, hz, hx, k⟩ := h
  refine ⟨_, (pss_cons (ps_set (i := 1) sc_parse_log.nd rfl (Or.inl rfl) (pe_lst pa_nil))
      (pss_cons (ps_if (pt_cmpA (o_eq hu) (pv 0) pe_str (nomark _)) (pss_one (ps_ret (pv 1))) pss_nil)
      (pss_cons (ps_for pz rfl (pi_enum rfl T.b_enumerate (pa_cons (pe_bm PySem.F.plainAttrs_str PySem.F.slot_str_split PySem.F.type_str_split m_split (pv 0) (pa_cons pe_str pa_nil)) pa_nil)) (pg_tup (n := 2) rfl (pgs_cons (pg_name (i := 2) sc_parse_log.nd rfl (Or.inl rfl)) (pgs_cons (pg_name (i := 3) sc_parse_log.nd rfl (Or.inl rfl)) pgs_nil)))
      (pss_cons (ps_set (i := 4) sc_parse_log.nd rfl (Or.inl rfl) (pe_slice sl_any (pv 3) (po_some pe_int) po_none))
      (pss_cons (ps_if (pt_cutT (PW.pt (pw_or (pt_cmpA op_notIn_seq (pe_slice sl_any (pv 3) po_none (po_some pe_int)) (pe_tup (pa_cons pe_str (pa_cons pe_str pa_nil))) (by rfl)) (pw_or (pt_cmpA (o_eq hu) (pv 4) pe_str (nomark _)) (pw_or1 (pt_not (pt_tru (pe_callA G_is_number (Room.mono hr (by decide)) T.n_is_number tk (pa_cons (pv 4) pa_nil))))))))) (pss_one (L2N.ps_raise rfl tk (Lk.pmk_own T.x_BadText (List.cons_ne_nil _ _) hr T.c_BadText (by exact (pa_cons (pv 2) pa_nil)) rfl))) pss_nil)
      (pss_cons (ps_set (i := 5) sc_parse_log.nd rfl (Or.inl rfl) (pe_callTy b_intA rfl T.b_int (by decide +kernel) (pa_cons (pv 4) pa_nil)))
      (pss_one (ps_expr (pe_bm PySem.F.plainAttrs_list PySem.F.slot_list_append PySem.F.type_list_append mt_append (pv 1) (pa_cons (pe_ifExp (pt_cmpA (o_eq hu) (pe_ix ix_seq (pv 3) pe_int (fun _ _ => rfl)) pe_str (nomark _)) (pe_un un_neg (pv 5)) (pv 5)) pa_nil))))))))
      (pss_one (ps_ret (pv 1)))))), ?_⟩
  show (_ : Ends → L2.St → Hp → Prop) _ [some _, none, none, none, none, none] _
  try dsimp only [L2H.cxH, cxOf]
  walk_at "w"
  intro r hr
  have kr := Kp.refl.new (ms := []) (o := .lst []) hr
  have hr1 : upd H r (.lst []) r = some (.lst (([] : List Int).map V.int)) := upd_same
  generalize upd H r (.lst []) = H1 at kr hr1 ⊢
  walk_at "w"
  refine w_ite (fun c => ?_) (fun c => ?_)
  · walk_at "w"
    exact k [] r H1 (.inl ⟨c, rfl⟩) hr kr hr1
  have hlen := split_len (z := z) (y := " ") (by rw [tl_sp]; simp) k_sp
  have hpl := split_part_len (z := z) (y := " ") (by rw [tl_sp]; simp) k_sp
  walk_at "w"
  intro p hp
  have kp := Kp.refl.new (ms := []) (o := .lst ((Txt.split z " ").map V.str)) hp
  have hp2 : upd H1 p (.lst ((Txt.split z " ").map V.str)) p = some (.lst ((Txt.split z " ").map V.str)) := upd_same
  have hr2 := kp.at0 hr1
  have k2 := kr.trans0 kp
  have pr : p ≠ r := Ne.symm (ne_of_none hr1 hp)
  generalize upd H1 p (.lst ((Txt.split z " ").map V.str)) = H2 at hp2 hr2 k2 ⊢
  have hws : Txt.split z " " = wordsOf z := rfl
  rw [hws] at hlen hpl hp2
  walk_at "w"
  refine w_enumM hp2 (fun i σ' H' => ∃ (x y z1 z2 : Option V) (us : List Int), σ' = [some (.str z), some (.ref r), x, y, z1, z2] ∧ Kp [] H H' ∧ H' p = some (.lst ((wordsOf z).map V.str)) ∧ H' r = some (.lst (us.map V.int)) ∧ us = ((wordsOf z).take i).map opV ∧ ∀ (j : Nat) (w' : Str), j < i → (wordsOf z)[j]? = some w' → opW w' = true) ⟨_, _, _, _, [], rfl, k2, hp2, hr2, rfl, fun j w' hj => by omega⟩ (fun i σ' H' _ q => by obtain ⟨_, _, _, _, _, _, _, q, _⟩ := q; exact q) ?_ ?_
  · rintro i w T σ' H' hu ⟨x, y, z1, z2, us, rfl, hk, hp3, hr3, hus, hok⟩ hT
    have hwl : w.length ≤ 100000 := Nat.le_trans (hpl w (List.mem_of_getElem? hu)) hz
    have hul : us.length ≤ 1000000 := by
      rw [hus, List.length_map, List.length_take]; omega
    have hdl : (cutS w (some 1) none).length ≤ 100000 := Nat.le_trans (cutS_len _ _ _) hwl
    walk_at "w"
    refine s_cutTK (¬opW w = true) (fun H4 => Kp [] H' H4) ?_ ?_
    · walk_at "w"
      intro t ht
      have kt := (Kp.refl (ms := []).new hT).new (o := .tup [.str "-", .str "+"]) ht
      have e2 : (HO.tup [.str "-", .str "+"]) = .tup ((["-", "+"] : List Str).map V.str) := rfl
      rw [e2]
      have ht5 := upd_same (H := upd H' T (.tup [.int (i : Int), .str w])) (a := t) (o := .tup ((["-", "+"] : List Str).map V.str))
      rw [e2] at kt
      generalize upd (upd H' T (.tup [.int (i : Int), .str w])) t (.tup ((["-", "+"] : List Str).map V.str)) = H5 at kt ht5 ⊢
      walk_at "w"
      have hmem : (cutS w none (some 1) ∈ (["-", "+"] : List Str)) ↔ (decide (cutS w none (some 1) = ("-" : Str)) || decide (cutS w none (some 1) = ("+" : Str))) = true := by simp
      refine w_iteN (fun c1 => ?_) (fun c1 => ?_)
      · refine ⟨kt, (decide_eq_true ?_).symm⟩
        intro z
        unfold opW at z
        rw [Bool.and_eq_true] at z
        exact c1 (hmem.mpr z.1)
      · have h1 := hmem.mp c1
        walk_at "w"
        refine w_ite (fun c2 => ?_) (fun c2 => ?_)
        · refine ⟨kt, (decide_eq_true ?_).symm⟩
          intro z
          unfold opW nodeW at z
          rw [c2] at z
          simp at z
        · walk_at "w"
          refine ⟨_, rfl, by omega, ?_⟩
          walk_at "w"
          refine ⟨kt, ?_⟩
          have e : opW w = isNumW (cutS w (some 1) none) := by
            unfold opW nodeW
            rw [h1, decide_eq_false c2]; simp
          rw [e]
          cases isNumW (cutS w (some 1) none) <;> rfl
    · intro H4 k4
      have hp4 := k4.at0 hp3
      have hr4 := k4.at0 hr3
      have k04 := hk.trans0 k4
      clear hp3 hr3 hk k4 hT
      refine w_ite (fun c1 => ?_) (fun c1 => ?_)
      · walk_at "w"
        refine ⟨rfl, fun d hd => hx i ⟨c, w, hu, by simpa using c1, hok⟩ d _ (k04.free hd) upd_same (k04.new hd)⟩
      · have c1 : opW w = true := by simpa using c1
        have hok' : ∀ (j : Nat) (w' : Str), j < i + 1 → (wordsOf z)[j]? = some w' → opW w' = true := fun j w' hj hw => by
          by_cases q : j < i
          · exact hok j w' q hw
          · obtain rfl : j = i := by omega
            rw [hu] at hw
            cases hw
            exact c1
        have hus' : us ++ [opV w] = ((wordsOf z).take (i + 1)).map opV := by
          rw [takeS hu, List.map_append, ← hus]; rfl
        have hno : nodeW (cutS w (some 1) none) = true := by
          unfold opW at c1
          rw [Bool.and_eq_true] at c1
          exact c1.2
        obtain ⟨t1, t2, t3⟩ := node_text hno
        have hne : TL.tl w ≠ [] := fun e => by
          rw [(cut_nil e).2] at hno
          exact absurd hno (by decide +kernel)
        obtain ⟨s0, hs0⟩ : ∃ s0, (TL.tl w)[0]? = some s0 := by
          cases e : TL.tl w with
          | nil => exact absurd e hne
          | cons c0 _ => exact ⟨c0, rfl⟩
        have hcut : cutS w none (some 1) = ⟨#[s0]⟩ := by
          cases e : TL.tl w with
          | nil => exact absurd e hne
          | cons c0 l =>
            rw [e] at hs0
            cases hs0
            exact (cut_cons e).1
        have hov : opV w = if (⟨#[s0]⟩ : Str) = "-" then -numV (cutS w (some 1) none) else numV (cutS w (some 1) none) := by
          unfold opV
          rw [hcut]
        walk_at "w"
        refine w_intS t1 (by omega) ?_
        walk_at "w"
        refine w_ixS (by rw [sizeLine_eq]; omega) (by omega) hs0 ?_
        walk_at "w"
        have rp : r ≠ p := Ne.symm pr
        have fin : ∀ v : Int, v = opV w → ∃ (x y z1' z2' : Option V) (us' : List Int), [some (V.str z), some (.ref r), some (.int (i : Int)), some (.str w), some (.str (cutS w (some 1) none)), some (.int (numV (cutS w (some 1) none)))] = [some (V.str z), some (.ref r), x, y, z1', z2'] ∧ Kp [] H (upd H4 r (.lst ((us ++ [v]).map V.int))) ∧ upd H4 r (.lst ((us ++ [v]).map V.int)) p = some (.lst ((wordsOf z).map V.str)) ∧ upd H4 r (.lst ((us ++ [v]).map V.int)) r = some (.lst (us'.map V.int)) ∧ us' = ((wordsOf z).take (i + 1)).map opV ∧ ∀ (j : Nat) (w' : Str), j < i + 1 → (wordsOf z)[j]? = some w' → opW w' = true := fun v hv =>
          ⟨_, _, _, _, _, rfl, k04.own hr, upd_get pr hp4, upd_same, by rw [hv]; exact hus', hok'⟩
        refine w_ite (fun c2 => ?_) (fun c2 => ?_)
        · walk_at "w"
          exact fin _ (by rw [hov, if_pos c2])
        · walk_at "w"
          exact fin _ (by rw [hov, if_neg c2])
  · rintro σ' H' ⟨x, y, z1, z2, us, rfl, hk, hp3, hr3, hus, hok⟩
    walk_at "w"
    refine k us r H' (.inr ⟨c, fun w hw => ?_, by rw [hus, List.take_length]⟩) hr hk hr3
    obtain ⟨j, hj, e⟩ := List.getElem_of_mem hw
    exact hok j w hj (by rw [List.getElem?_eq_getElem hj, e])
/-! ### draws -/
/-- the box at b, its numbers at q -/
def Box (H : Hp) (b q : Addr) : Prop := ∃ (ns : List Int) (i big st c : Int), H b = some (.lst [.ref q, .int i, .int big, .int st, .int c]) ∧ H q = some (.lst (ns.map V.int)) ∧ q ≠ b ∧ 0 ≤ i ∧ 0 ≤ big
theorem Box.kp {H H' : Hp} {b q : Addr} (B : Box H b q) (k : Kp [] H H') : Box H' b q := by
  obtain ⟨ns, i, big, st, c, h1, h2, h3⟩ := B
  exact ⟨ns, i, big, st, c, k.at0 h1, k.at0 h2, h3⟩
theorem Box.new {H : Hp} {b q p : Addr} {o : HO} (B : Box H b q) (h : H p = none) : Box (upd H p o) b q := B.kp (Kp.refl.new h)
theorem Box.mut {H : Hp} {b q p : Addr} {o : HO} (B : Box H b q) (n1 : p ≠ b) (n2 : p ≠ q) : Box (upd H p o) b q := by
  obtain ⟨ns, i, big, st, c, h1, h2, h3⟩ := B
  exact ⟨ns, i, big, st, c, upd_get (Ne.symm n1) h1, upd_get (Ne.symm n2) h2, h3⟩
theorem Box.b {H : Hp} {b q p : Addr} (B : Box H b q) (h : H p = none) : p ≠ b := by
  obtain ⟨ns, i, big, st, c, h1, h2, h3⟩ := B
  exact Ne.symm (ne_of_none h1 h)
theorem Box.q {H : Hp} {b q p : Addr} (B : Box H b q) (h : H p = none) : p ≠ q := by
  obtain ⟨ns, i, big, st, c, h1, h2, h3⟩ := B
  exact Ne.symm (ne_of_none h2 h)
theorem kp_free {H H' : Hp} {b q r : Addr} (B : Box H' b q) (k : Kp [b] H H') (h : H' r = none) : H r = none := k.freeM h (by
  obtain ⟨ns, i, big, st, c, h1, h2, h3⟩ := B
  intro x hx
  rw [List.mem_singleton] at hx
  exact ⟨_, by rw [hx]; exact h1⟩)
def sp__law_box (K : PySem.W.Frag) (a : AD) : Sp := fun vs H Q _ => ∃ (p : Addr) (ns : List Int), vs = [.ref p] ∧ SqL K H p (ns.map V.int) ∧ ∀ (b q : Addr) (H' : Hp), H b = none → Box H' b q → Kp [] H H' → Q (.ref b) H'
def sp__law_draw (a : AD) : Sp := fun vs H Q _ => ∃ (b q : Addr) (m : Int), vs = [.ref b, .int m] ∧ Box H b q ∧ 0 < m ∧ m < 1073741824 ∧ ∀ (r : Int) (H' : Hp), 0 ≤ r → r < m → Box H' b q → Kp [b] H H' → Q (.int r) H'
theorem sc__law_box : FnScope ["_law_script"] ["_law_script"] (defScope s__law_box) := ⟨rfl, rfl, rfl, by decide +kernel, rfl, by decide +kernel, by decide +kernel⟩
theorem ok__law_box {P : Program} {w : World} {K : PySem.W.Frag} {mg : Str → Option Value} {base : Heap} {a : AD} (T : Txt P K mg a) : FnA P w K mg base 2 a.f__law_box ["_law_script"] (sp__law_box K a) := by
  obtain ⟨fd, F, b⟩ := T.F__law_box
  refine FnA.of F sc__law_box b (fun vs H Q E h => by first | (obtain ⟨rfl, _⟩ := h; rfl) | (obtain ⟨_, rfl, _⟩ := h; rfl) | (obtain ⟨_, _, rfl, _⟩ := h; rfl) | (obtain ⟨_, _, _, rfl, _⟩ := h; rfl) | (obtain ⟨_, _, _, _, rfl, _⟩ := h; rfl) | (obtain ⟨_, _, _, _, _, rfl, _⟩ := h; rfl) | (obtain ⟨_, _, _, _, _, _, rfl, _⟩ := h; rfl) | (obtain ⟨_, _, _, _, _, _, _, rfl, _⟩ := h; rfl) | (obtain ⟨_, _, _, _, _, _, _, _, rfl, _⟩ := h; rfl) | (obtain ⟨_, _, _, _, _, _, _, _, _, rfl, _⟩ := h; rfl) | (obtain ⟨_, _, _, _, _, _, _, _, _, _, rfl, _⟩ := h; rfl) | (obtain ⟨_, _, _, _, _, _, _, _, _, _, _, rfl, _⟩ := h; rfl) | (obtain ⟨_, _, _, _, _, _, _, _, _, _, _, _, rfl, _⟩ := h; rfl) | (obtain ⟨_, _, _, _, _, _, _, _, _, _, _, _, _, rfl, _⟩ := h; rfl) | (obtain ⟨_, _, _, _, _, _, _, _, _, _, _, _, _, _, rfl, _⟩ := h; rfl) | (obtain ⟨_, _, _, _, _, _, _, _, _, _, _, _, _, _, _, rfl, _⟩ := h; rfl) | (obtain ⟨_, _, _, _, _, _, _, _, _, _, _, _, _, _, _, _, rfl, _⟩ := h; rfl) | (obtain ⟨_, _, _, _, _, _, _, _, _, _, _, _, _, _, _, _, _, rfl, _⟩ := h; rfl) | (obtain ⟨_, _, _, _, _, _, _, _, _, _, _, _, _, _, _, _, _, _, rfl, _⟩ := h; rfl) | (obtain ⟨_, _, _, _, _, _, _, _, _, _, _, _, _, _, _, _, _, _, _, rfl, _⟩ := h; rfl) | (obtain ⟨_, _, _, _, _, _, _, _, _, _, _, _, _, _, _, _, _, _, _, _, rfl, _⟩ := h; rfl) | (obtain ⟨_, _, _, _, _, _, _, _, _, _, _, _, _, _, _, _, _, _, _, _, _, rfl, _⟩ := h; rfl) | (obtain ⟨_, _, _, _, _, _, _, _, _, _, _, _, _, _, _, _, _, _, _, _, _, _, rfl, _⟩ := h; rfl) | (obtain ⟨_, _, _, _, _, _, _, _, _, _, _, _, _, _, _, _, _, _, _, _, _, _, _, rfl, _⟩ := h; rfl)) (fun cdv A outer s H vs Q E hr tk pz h => ?_)
  have hu := hr.units
  have hrH := L2H.roomH_of hr
  obtain ⟨p, ns, rfl, hp, k⟩ := h
  refine ⟨_, (pss_one (ps_ret (pe_lst (pa_cons (pe_callTy b_list rfl T.b_list (by decide +kernel) (pa_cons (pe_slice sl_any (pv 0) po_none (po_some pe_int)) pa_nil)) (pa_cons pe_int (pa_cons pe_int (pa_cons pe_int (pa_cons pe_int pa_nil)))))))), ?_⟩
  show (_ : Ends → L2.St → Hp → Prop) _ [some _] _
  try dsimp only [L2H.cxH, cxOf]
  walk_at "w"
  intro r hr
  walk_at "w"
  intro l hl
  walk_at "w"
  intro b hb
  refine k b l _ (upd_nil (upd_nil hb)) ⟨cut ns none (some 63), 0, 0, 113, 0, upd_same, upd_get (Ne.symm (upd_nel hb)) upd_same, Ne.symm (upd_nel hb), by omega, by omega⟩ (((Kp.refl.new hr).new hl).new hb)
theorem sc__law_draw : FnScope ["_law_box_here", "_law_many", "_law_cell", "_law_digit", "_law_mixed"] ["_law_box_here", "_law_many"] (defScope s__law_draw) := ⟨rfl, rfl, rfl, by decide +kernel, rfl, by decide +kernel, by decide +kernel⟩
theorem ok__law_draw {P : Program} {w : World} {K : PySem.W.Frag} {mg : Str → Option Value} {base : Heap} {a : AD} (T : Txt P K mg a) : FnA P w K mg base 2 a.f__law_draw ["_law_box_here", "_law_many"] (sp__law_draw a) := by
  obtain ⟨fd, F, b⟩ := T.F__law_draw
  refine FnA.of F sc__law_draw b (fun vs H Q E h => by first | (obtain ⟨rfl, _⟩ := h; rfl) | (obtain ⟨_, rfl, _⟩ := h; rfl) | (obtain ⟨_, _, rfl, _⟩ := h; rfl) | (obtain ⟨_, _, _, rfl, _⟩ := h; rfl) | (obtain ⟨_, _, _, _, rfl, _⟩ := h; rfl) | (obtain ⟨_, _, _, _, _, rfl, _⟩ := h; rfl) | (obtain ⟨_, _, _, _, _, _, rfl, _⟩ := h; rfl) | (obtain ⟨_, _, _, _, _, _, _, rfl, _⟩ := h; rfl) | (obtain ⟨_, _, _, _, _, _, _, _, rfl, _⟩ := h; rfl) | (obtain ⟨_, _, _, _, _, _, _, _, _, rfl, _⟩ := h; rfl) | (obtain ⟨_, _, _, _, _, _, _, _, _, _, rfl, _⟩ := h; rfl) | (obtain ⟨_, _, _, _, _, _, _, _, _, _, _, rfl, _⟩ := h; rfl) | (obtain ⟨_, _, _, _, _, _, _, _, _, _, _, _, rfl, _⟩ := h; rfl) | (obtain ⟨_, _, _, _, _, _, _, _, _, _, _, _, _, rfl, _⟩ := h; rfl) | (obtain ⟨_, _, _, _, _, _, _, _, _, _, _, _, _, _, rfl, _⟩ := h; rfl) | (obtain ⟨_, _, _, _, _, _, _, _, _, _, _, _, _, _, _, rfl, _⟩ := h; rfl) | (obtain ⟨_, _, _, _, _, _, _, _, _, _, _, _, _, _, _, _, rfl, _⟩ := h; rfl) | (obtain ⟨_, _, _, _, _, _, _, _, _, _, _, _, _, _, _, _, _, rfl, _⟩ := h; rfl) | (obtain ⟨_, _, _, _, _, _, _, _, _, _, _, _, _, _, _, _, _, _, rfl, _⟩ := h; rfl) | (obtain ⟨_, _, _, _, _, _, _, _, _, _, _, _, _, _, _, _, _, _, _, rfl, _⟩ := h; rfl) | (obtain ⟨_, _, _, _, _, _, _, _, _, _, _, _, _, _, _, _, _, _, _, _, rfl, _⟩ := h; rfl) | (obtain ⟨_, _, _, _, _, _, _, _, _, _, _, _, _, _, _, _, _, _, _, _, _, rfl, _⟩ := h; rfl) | (obtain ⟨_, _, _, _, _, _, _, _, _, _, _, _, _, _, _, _, _, _, _, _, _, _, rfl, _⟩ := h; rfl) | (obtain ⟨_, _, _, _, _, _, _, _, _, _, _, _, _, _, _, _, _, _, _, _, _, _, _, rfl, _⟩ := h; rfl)) (fun cdv A outer s H vs Q E hr tk pz h => ?_)
  have hu := hr.units
  have hrH := L2H.roomH_of hr
  obtain ⟨b, q, m, rfl, ⟨ns, i, big, st, c, hb, hq, hqb, hi, hbig⟩, hm0, hm1, k⟩ := h
  refine ⟨_, (pss_cut (ps_if (PW.pt (pw_and (pt_cmpA (o_eq hu) (pe_ix ix_seq (pv 0) pe_int (fun _ _ => rfl)) pe_int (nomark _)) (pw_and1 (pt_cmpA op_lt (pe_ix ix_seq (pv 0) pe_int (fun _ _ => rfl)) (pe_callB (b_len) rfl T.b_len (by decide +kernel) (pa_cons (pe_ix ix_seq (pv 0) pe_int (fun _ _ => rfl)) pa_nil)) (nomark _))))) (pss_cons (ps_set (i := 2) sc__law_draw.nd rfl (Or.inl rfl) (pe_ix ix_seq (pe_ix ix_seq (pv 0) pe_int (fun _ _ => rfl)) (pe_ix ix_seq (pv 0) pe_int (fun _ _ => rfl)) (fun _ _ => rfl)))
      (pss_cons (ps_asg (pe_op o_add (pe_ix ix_seq (pv 0) pe_int (fun _ _ => rfl)) pe_int) (pg_sub (pv 0) pe_int set_list))
      (pss_one (ps_if (pt_cmpA op_ge (pv 2) (pe_op op_pow pe_int pe_int) (nomark _)) (pss_one (ps_asg (pv 2) (pg_sub (pv 0) pe_int set_list))) (pss_one (ps_asg (pe_op op_mod (pe_callTy b_intA rfl T.b_int (by decide +kernel) (pa_cons (pe_op o_add (pe_op o_add (pe_op o_mul (pe_ix ix_seq (pv 0) pe_int (fun _ _ => rfl)) pe_int) (pe_op o_mul (pv 2) pe_int)) pe_int) pa_nil)) pe_int) (pg_sub (pv 0) pe_int set_list))))))) pss_nil)
      (pss_cons (ps_if (pt_cmpA op_gt (pe_ix ix_seq (pv 0) pe_int (fun _ _ => rfl)) pe_int (nomark _)) (pss_cons (ps_set (i := 3) sc__law_draw.nd rfl (Or.inl rfl) (pe_op op_mod (pe_callTy b_intA rfl T.b_int (by decide +kernel) (pa_cons (pe_ix ix_seq (pv 0) pe_int (fun _ _ => rfl)) pa_nil)) (pv 1)))
      (pss_cons (ps_asg (pe_op op_fdiv (pe_ix ix_seq (pv 0) pe_int (fun _ _ => rfl)) (pv 1)) (pg_sub (pv 0) pe_int set_list))
      (pss_one (ps_ret (pv 3))))) pss_nil)
      (pss_cons (ps_asg (pe_op o_add (pe_ix ix_seq (pv 0) pe_int (fun _ _ => rfl)) pe_int) (pg_sub (pv 0) pe_int set_list))
      (pss_cons (ps_asg (pe_op op_mod (pe_callTy b_intA rfl T.b_int (by decide +kernel) (pa_cons (pe_op o_add (pe_op o_mul (pe_ix ix_seq (pv 0) pe_int (fun _ _ => rfl)) pe_int) (pe_op o_mul (pe_ix ix_seq (pv 0) pe_int (fun _ _ => rfl)) pe_int)) pa_nil)) pe_int) (pg_sub (pv 0) pe_int set_list))
      (pss_cons (ps_set (i := 4) sc__law_draw.nd rfl (Or.inl rfl) (pe_op op_mod (pe_callTy b_intA rfl T.b_int (by decide +kernel) (pa_cons (pe_op o_add (pe_op o_add (pe_op o_mul (pe_op op_fdiv (pe_ix ix_seq (pv 0) pe_int (fun _ _ => rfl)) pe_int) pe_int) (pe_ix ix_seq (pv 0) pe_int (fun _ _ => rfl))) (pe_ix ix_seq (pv 0) pe_int (fun _ _ => rfl))) pa_nil)) pe_int))
      (pss_one (ps_ret (pe_op op_mod (pe_callTy b_intA rfl T.b_int (by decide +kernel) (pa_cons (pe_op op_fdiv (pv 4) pe_int) pa_nil)) (pv 1))))))))), ?_⟩
  show (_ : Ends → L2.St → Hp → Prop) _ [some _, some _, none, none, none] _
  try dsimp only [L2H.cxH, cxOf]
  refine s_cut (fun σ' H' => ∃ x i big st c, σ' = [some (.ref b), some (.int m), x, none, none] ∧ H' b = some (.lst [.ref q, .int i, .int big, .int st, .int c]) ∧ Kp [b] H H' ∧ 0 ≤ i ∧ 0 ≤ big) ?_ ?_
  · walk_at "w"
    refine w_ite (fun c1 => ?_) (fun c1 => ?_)
    · walk_at "w"
      refine w_ite (fun c2 => ?_) (fun c2 => ?_)
      · walk_at "w"
        refine w_ite (fun c3 => ?_) (fun c3 => ?_)
        · walk_at "w"
          exact ⟨_, i + 1, ns.getD i.toNat default, st, c, rfl, upd_same, (Kp.refl.mut List.mem_cons_self).mut List.mem_cons_self, by omega, Int.le_trans (by decide) c3⟩
        · walk_at "w"
          exact ⟨_, i + 1, big, _, c, rfl, upd_same, (Kp.refl.mut List.mem_cons_self).mut List.mem_cons_self, by omega, hbig⟩
      · walk_at "w"
        exact ⟨_, _, _, _, _, rfl, hb, Kp.refl, hi, hbig⟩
    · walk_at "w"
      exact ⟨_, _, _, _, _, rfl, hb, Kp.refl, hi, hbig⟩
  · rintro σ' H' ⟨x, i, big, st, c, rfl, hb', hk, hi, hbig⟩
    walk_at "w"
    refine w_ite (fun c1 => ?_) (fun c1 => ?_)
    · walk_at "w"
      refine k _ _ (Int.emod_nonneg _ (by omega)) (Int.emod_lt_of_pos _ hm0) ⟨ns, i, _, st, c, upd_same, upd_get hqb ?_, hqb, hi, Int.ediv_nonneg hbig (by omega)⟩ (hk.mut List.mem_cons_self)
      exact hk.at hq (fun z => hqb (List.mem_singleton.mp z))
    · walk_at "w"
      refine k _ _ (Int.emod_nonneg _ (by omega)) (Int.emod_lt_of_pos _ hm0) ⟨ns, i, big, _, c + 1, upd_same, upd_get hqb (upd_get hqb ?_), hqb, hi, hbig⟩ ((hk.mut List.mem_cons_self).mut List.mem_cons_self)
      exact hk.at hq (fun z => hqb (List.mem_singleton.mp z))
def sp__law_is (a : AD) : Sp := fun vs H Q _ => ∃ (t d : Int), vs = [.int t, .int d] ∧ Q (.bl (decide (t = d))) H
theorem sc__law_is : FnScope ["_law_told", "_law_due"] ["_law_told", "_law_due"] (defScope s__law_is) := ⟨rfl, rfl, rfl, by decide +kernel, rfl, by decide +kernel, by decide +kernel⟩
theorem ok__law_is {P : Program} {w : World} {K : PySem.W.Frag} {mg : Str → Option Value} {base : Heap} {a : AD} (T : Txt P K mg a) : FnA P w K mg base 2 a.f__law_is ["_law_told", "_law_due"] (sp__law_is a) := by
  obtain ⟨fd, F, b⟩ := T.F__law_is
  refine FnA.of F sc__law_is b (fun vs H Q E h => by first | (obtain ⟨rfl, _⟩ := h; rfl) | (obtain ⟨_, rfl, _⟩ := h; rfl) | (obtain ⟨_, _, rfl, _⟩ := h; rfl) | (obtain ⟨_, _, _, rfl, _⟩ := h; rfl) | (obtain ⟨_, _, _, _, rfl, _⟩ := h; rfl) | (obtain ⟨_, _, _, _, _, rfl, _⟩ := h; rfl) | (obtain ⟨_, _, _, _, _, _, rfl, _⟩ := h; rfl) | (obtain ⟨_, _, _, _, _, _, _, rfl, _⟩ := h; rfl) | (obtain ⟨_, _, _, _, _, _, _, _, rfl, _⟩ := h; rfl) | (obtain ⟨_, _, _, _, _, _, _, _, _, rfl, _⟩ := h; rfl) | (obtain ⟨_, _, _, _, _, _, _, _, _, _, rfl, _⟩ := h; rfl) | (obtain ⟨_, _, _, _, _, _, _, _, _, _, _, rfl, _⟩ := h; rfl) | (obtain ⟨_, _, _, _, _, _, _, _, _, _, _, _, rfl, _⟩ := h; rfl) | (obtain ⟨_, _, _, _, _, _, _, _, _, _, _, _, _, rfl, _⟩ := h; rfl) | (obtain ⟨_, _, _, _, _, _, _, _, _, _, _, _, _, _, rfl, _⟩ := h; rfl) | (obtain ⟨_, _, _, _, _, _, _, _, _, _, _, _, _, _, _, rfl, _⟩ := h; rfl) | (obtain ⟨_, _, _, _, _, _, _, _, _, _, _, _, _, _, _, _, rfl, _⟩ := h; rfl) | (obtain ⟨_, _, _, _, _, _, _, _, _, _, _, _, _, _, _, _, _, rfl, _⟩ := h; rfl) | (obtain ⟨_, _, _, _, _, _, _, _, _, _, _, _, _, _, _, _, _, _, rfl, _⟩ := h; rfl) | (obtain ⟨_, _, _, _, _, _, _, _, _, _, _, _, _, _, _, _, _, _, _, rfl, _⟩ := h; rfl) | (obtain ⟨_, _, _, _, _, _, _, _, _, _, _, _, _, _, _, _, _, _, _, _, rfl, _⟩ := h; rfl) | (obtain ⟨_, _, _, _, _, _, _, _, _, _, _, _, _, _, _, _, _, _, _, _, _, rfl, _⟩ := h; rfl) | (obtain ⟨_, _, _, _, _, _, _, _, _, _, _, _, _, _, _, _, _, _, _, _, _, _, rfl, _⟩ := h; rfl) | (obtain ⟨_, _, _, _, _, _, _, _, _, _, _, _, _, _, _, _, _, _, _, _, _, _, _, rfl, _⟩ := h; rfl)) (fun cdv A outer s H vs Q E hr tk pz h => ?_)
  have hu := hr.units
  have hrH := L2H.roomH_of hr
  obtain ⟨t, d, rfl, k⟩ := h
  refine ⟨_, (pss_one (ps_ret (pe_and (pe_callB (call_isi) rfl T.b_isinstance (by decide +kernel) (pa_cons (pv 0) (pa_cons (pe_bltn (v := .ty "int") rfl T.b_int (by decide +kernel) rfl) pa_nil))) (pe_and (pe_not (pe_callB (call_isi) rfl T.b_isinstance (by decide +kernel) (pa_cons (pv 0) (pa_cons (pe_bltn (v := .ty "bool") rfl T.b_bool (by decide +kernel) rfl) pa_nil)))) (pe_one (pe_cmpR (o_eq hu) (pv 0) (pv 1) (nomark _))))))), ?_⟩
  show (_ : Ends → L2.St → Hp → Prop) _ [some _, some _] _
  try dsimp only [L2H.cxH, cxOf]
  walk_at "w"
  exact k
theorem sch__law_is : FnScope ["_law_told", "_law_due"] ["_law_told", "_law_due"] (defScope s__law_is) := ⟨rfl, rfl, rfl, by decide +kernel, rfl, by decide +kernel, by decide +kernel⟩
theorem hk__law_is {P : Program} {w : World} {K : PySem.W.Frag} {mg : Str → Option Value} {base : Heap} {a : AD} (T : Txt P K mg a) : FnHA P w K mg base 2 a.f__law_is ["_law_told", "_law_due"] (sp__law_is a) := by
  obtain ⟨fd, F, b⟩ := T.F__law_is
  refine FnHA.of F sch__law_is b (fun vs H Q E h => by first | (obtain ⟨rfl, _⟩ := h; rfl) | (obtain ⟨_, rfl, _⟩ := h; rfl) | (obtain ⟨_, _, rfl, _⟩ := h; rfl) | (obtain ⟨_, _, _, rfl, _⟩ := h; rfl) | (obtain ⟨_, _, _, _, rfl, _⟩ := h; rfl) | (obtain ⟨_, _, _, _, _, rfl, _⟩ := h; rfl) | (obtain ⟨_, _, _, _, _, _, rfl, _⟩ := h; rfl) | (obtain ⟨_, _, _, _, _, _, _, rfl, _⟩ := h; rfl) | (obtain ⟨_, _, _, _, _, _, _, _, rfl, _⟩ := h; rfl) | (obtain ⟨_, _, _, _, _, _, _, _, _, rfl, _⟩ := h; rfl) | (obtain ⟨_, _, _, _, _, _, _, _, _, _, rfl, _⟩ := h; rfl) | (obtain ⟨_, _, _, _, _, _, _, _, _, _, _, rfl, _⟩ := h; rfl) | (obtain ⟨_, _, _, _, _, _, _, _, _, _, _, _, rfl, _⟩ := h; rfl) | (obtain ⟨_, _, _, _, _, _, _, _, _, _, _, _, _, rfl, _⟩ := h; rfl) | (obtain ⟨_, _, _, _, _, _, _, _, _, _, _, _, _, _, rfl, _⟩ := h; rfl) | (obtain ⟨_, _, _, _, _, _, _, _, _, _, _, _, _, _, _, rfl, _⟩ := h; rfl) | (obtain ⟨_, _, _, _, _, _, _, _, _, _, _, _, _, _, _, _, rfl, _⟩ := h; rfl) | (obtain ⟨_, _, _, _, _, _, _, _, _, _, _, _, _, _, _, _, _, rfl, _⟩ := h; rfl) | (obtain ⟨_, _, _, _, _, _, _, _, _, _, _, _, _, _, _, _, _, _, rfl, _⟩ := h; rfl) | (obtain ⟨_, _, _, _, _, _, _, _, _, _, _, _, _, _, _, _, _, _, _, rfl, _⟩ := h; rfl) | (obtain ⟨_, _, _, _, _, _, _, _, _, _, _, _, _, _, _, _, _, _, _, _, rfl, _⟩ := h; rfl) | (obtain ⟨_, _, _, _, _, _, _, _, _, _, _, _, _, _, _, _, _, _, _, _, _, rfl, _⟩ := h; rfl) | (obtain ⟨_, _, _, _, _, _, _, _, _, _, _, _, _, _, _, _, _, _, _, _, _, _, rfl, _⟩ := h; rfl) | (obtain ⟨_, _, _, _, _, _, _, _, _, _, _, _, _, _, _, _, _, _, _, _, _, _, _, rfl, _⟩ := h; rfl)) (fun cdv A outer s H vs Q E pin hot1 hrH hot pz h => ?_)
  have hu := roomH_units hrH
  obtain ⟨t, d, rfl, k⟩ := h
  refine ⟨_, (pss_one (ps_ret (pe_and (pe_callB (call_isi) rfl T.b_isinstance (by decide +kernel) (pa_cons (pv 0) (pa_cons (pe_bltn (v := .ty "int") rfl T.b_int (by decide +kernel) rfl) pa_nil))) (pe_and (pe_not (pe_callB (call_isi) rfl T.b_isinstance (by decide +kernel) (pa_cons (pv 0) (pa_cons (pe_bltn (v := .ty "bool") rfl T.b_bool (by decide +kernel) rfl) pa_nil)))) (pe_one (pe_cmpR (o_eq hu) (pv 0) (pv 1) (nomark _))))))), ?_⟩
  show (_ : Ends → L2.St → Hp → Prop) _ [some _, some _] _
  try dsimp only [L2H.cxH, cxOf]
  walk_at "w"
  exact k
def sp__law_integers (a : AD) : Sp := fun vs H Q _ => ∃ (p q : Addr) (us ds : List Int), vs = [.ref p, .ref q] ∧ H p = some (.lst (us.map V.int)) ∧ H q = some (.lst (ds.map V.int)) ∧ us.length < 1000000 ∧ ds.length < 1000000 ∧ Q (.bl (decide (us = ds))) H
theorem ne_at {us ds : List Int} {i : Nat} (h : ¬us.getD i default = ds.getD i default) : decide (us = ds) = false := by
  simp; intro z; exact h (by rw [z])
theorem eq_at {us ds : List Int} (hl : us.length = ds.length) (h : ∀ j, j < ds.length → us.getD j default = ds.getD j default) : us = ds := by
  apply List.ext_getElem hl
  intro i h1 h2
  have := h i h2
  simpa [List.getD, List.getElem?_eq_getElem h1, List.getElem?_eq_getElem h2] using this
theorem sc__law_integers : FnScope ["_law_told", "_law_due", "_law_k"] ["_law_told", "_law_due"] (defScope s__law_integers) := ⟨rfl, rfl, rfl, by decide +kernel, rfl, by decide +kernel, by decide +kernel⟩
theorem ok__law_integers {P : Program} {w : World} {K : PySem.W.Frag} {mg : Str → Option Value} {base : Heap} {a : AD} (T : Txt P K mg a) (G__law_is : FnA P w K mg base 2 a.f__law_is ["_law_told", "_law_due"] (sp__law_is a)) : FnA P w K mg base 3 a.f__law_integers ["_law_told", "_law_due"] (sp__law_integers a) := by
  obtain ⟨fd, F, b⟩ := T.F__law_integers
  refine FnA.of F sc__law_integers b (fun vs H Q E h => by first | (obtain ⟨rfl, _⟩ := h; rfl) | (obtain ⟨_, rfl, _⟩ := h; rfl) | (obtain ⟨_, _, rfl, _⟩ := h; rfl) | (obtain ⟨_, _, _, rfl, _⟩ := h; rfl) | (obtain ⟨_, _, _, _, rfl, _⟩ := h; rfl) | (obtain ⟨_, _, _, _, _, rfl, _⟩ := h; rfl) | (obtain ⟨_, _, _, _, _, _, rfl, _⟩ := h; rfl) | (obtain ⟨_, _, _, _, _, _, _, rfl, _⟩ := h; rfl) | (obtain ⟨_, _, _, _, _, _, _, _, rfl, _⟩ := h; rfl) | (obtain ⟨_, _, _, _, _, _, _, _, _, rfl, _⟩ := h; rfl) | (obtain ⟨_, _, _, _, _, _, _, _, _, _, rfl, _⟩ := h; rfl) | (obtain ⟨_, _, _, _, _, _, _, _, _, _, _, rfl, _⟩ := h; rfl) | (obtain ⟨_, _, _, _, _, _, _, _, _, _, _, _, rfl, _⟩ := h; rfl) | (obtain ⟨_, _, _, _, _, _, _, _, _, _, _, _, _, rfl, _⟩ := h; rfl) | (obtain ⟨_, _, _, _, _, _, _, _, _, _, _, _, _, _, rfl, _⟩ := h; rfl) | (obtain ⟨_, _, _, _, _, _, _, _, _, _, _, _, _, _, _, rfl, _⟩ := h; rfl) | (obtain ⟨_, _, _, _, _, _, _, _, _, _, _, _, _, _, _, _, rfl, _⟩ := h; rfl) | (obtain ⟨_, _, _, _, _, _, _, _, _, _, _, _, _, _, _, _, _, rfl, _⟩ := h; rfl) | (obtain ⟨_, _, _, _, _, _, _, _, _, _, _, _, _, _, _, _, _, _, rfl, _⟩ := h; rfl) | (obtain ⟨_, _, _, _, _, _, _, _, _, _, _, _, _, _, _, _, _, _, _, rfl, _⟩ := h; rfl) | (obtain ⟨_, _, _, _, _, _, _, _, _, _, _, _, _, _, _, _, _, _, _, _, rfl, _⟩ := h; rfl) | (obtain ⟨_, _, _, _, _, _, _, _, _, _, _, _, _, _, _, _, _, _, _, _, _, rfl, _⟩ := h; rfl) | (obtain ⟨_, _, _, _, _, _, _, _, _, _, _, _, _, _, _, _, _, _, _, _, _, _, rfl, _⟩ := h; rfl) | (obtain ⟨_, _, _, _, _, _, _, _, _, _, _, _, _, _, _, _, _, _, _, _, _, _, _, rfl, _⟩ := h; rfl)) (fun cdv A outer s H vs Q E hr tk pz h => ?_)
  have hu := hr.units
  have hrH := L2H.roomH_of hr
  obtain ⟨p, q, us, ds, rfl, hp, hq, hl1, hl2, k⟩ := h
  refine ⟨_, (pss_cons (ps_if (PW.pt (pw_or (pt_not (pt_tru (pe_callB (call_isi) rfl T.b_isinstance (by decide +kernel) (pa_cons (pv 0) (pa_cons (pe_bltn (v := .ty "list") rfl T.b_list (by decide +kernel) rfl) pa_nil))))) (pw_or1 (pt_cmpA (o_ne hu) (pe_callB (b_len) rfl T.b_len (by decide +kernel) (pa_cons (pv 0) pa_nil)) (pe_callB (b_len) rfl T.b_len (by decide +kernel) (pa_cons (pv 1) pa_nil)) (nomark _))))) (pss_one (ps_ret pe_bl)) pss_nil)
      (pss_cons (ps_for pz rfl (pi_range1 rfl T.b_range (pa_cons (pe_callB (b_len) rfl T.b_len (by decide +kernel) (pa_cons (pv 1) pa_nil)) pa_nil)) (pg_name (i := 2) sc__law_integers.nd rfl (Or.inl rfl))
      (pss_one (ps_if (pt_not (pt_tru (pe_callA G__law_is (Room.mono hr (by decide)) T.n__law_is tk (pa_cons (pe_ix ix_seq (pv 0) (pv 2) (fun _ _ => rfl)) (pa_cons (pe_ix ix_seq (pv 1) (pv 2) (fun _ _ => rfl)) pa_nil))))) (pss_one (ps_ret pe_bl)) pss_nil)))
      (pss_one (ps_ret pe_bl)))), ?_⟩
  show (_ : Ends → L2.St → Hp → Prop) _ [some _, some _, none] _
  try dsimp only [L2H.cxH, cxOf]
  walk_at "w"
  refine w_iteN (fun c => ?_) (fun c => ?_)
  · walk_at "w"
    rw [show decide (us = ds) = false by simp; intro z; exact c (by rw [z])] at k
    exact k
  · walk_at "w"
    refine w_rng1 (n := (ds.length : Int)) (by omega) (by omega) (fun i σ' H' => (∃ x, σ' = [some (.ref p), some (.ref q), x]) ∧ H' = H ∧ ∀ j, j < i → us.getD j default = ds.getD j default) ⟨⟨_, rfl⟩, rfl, fun j hj => by omega⟩ ?_ ?_
    · rintro i σ' H' hi ⟨⟨x, rfl⟩, rfl, hj⟩
      walk_at "w"
      refine ⟨_, _, rfl, ?_⟩
      walk_at "w"
      refine w_iteN (fun c2 => ?_) (fun c2 => ?_)
      · walk_at "w"
        rw [ne_at c2] at k
        exact k
      · walk_at "w"
        refine ⟨⟨_, rfl⟩, rfl, fun j hj' => ?_⟩
        by_cases z : j < i
        · exact hj j z
        · obtain rfl : j = i := by omega
          exact c2
    · rintro σ' H' ⟨⟨x, rfl⟩, rfl, hj⟩
      walk_at "w"
      rw [show decide (us = ds) = true by simp; exact eq_at (by omega) (fun j h => hj j (by simpa using h))] at k
      exact k
theorem sch__law_integers : FnScope ["_law_told", "_law_due", "_law_k"] ["_law_told", "_law_due"] (defScope s__law_integers) := ⟨rfl, rfl, rfl, by decide +kernel, rfl, by decide +kernel, by decide +kernel⟩
theorem hk__law_integers {P : Program} {w : World} {K : PySem.W.Frag} {mg : Str → Option Value} {base : Heap} {a : AD} (T : Txt P K mg a) (H__law_is : FnHA P w K mg base 2 a.f__law_is ["_law_told", "_law_due"] (sp__law_is a)) : FnHA P w K mg base 3 a.f__law_integers ["_law_told", "_law_due"] (sp__law_integers a) := by
  obtain ⟨fd, F, b⟩ := T.F__law_integers
  refine FnHA.of F sch__law_integers b (fun vs H Q E h => by first | (obtain ⟨rfl, _⟩ := h; rfl) | (obtain ⟨_, rfl, _⟩ := h; rfl) | (obtain ⟨_, _, rfl, _⟩ := h; rfl) | (obtain ⟨_, _, _, rfl, _⟩ := h; rfl) | (obtain ⟨_, _, _, _, rfl, _⟩ := h; rfl) | (obtain ⟨_, _, _, _, _, rfl, _⟩ := h; rfl) | (obtain ⟨_, _, _, _, _, _, rfl, _⟩ := h; rfl) | (obtain ⟨_, _, _, _, _, _, _, rfl, _⟩ := h; rfl) | (obtain ⟨_, _, _, _, _, _, _, _, rfl, _⟩ := h; rfl) | (obtain ⟨_, _, _, _, _, _, _, _, _, rfl, _⟩ := h; rfl) | (obtain ⟨_, _, _, _, _, _, _, _, _, _, rfl, _⟩ := h; rfl) | (obtain ⟨_, _, _, _, _, _, _, _, _, _, _, rfl, _⟩ := h; rfl) | (obtain ⟨_, _, _, _, _, _, _, _, _, _, _, _, rfl, _⟩ := h; rfl) | (obtain ⟨_, _, _, _, _, _, _, _, _, _, _, _, _, rfl, _⟩ := h; rfl) | (obtain ⟨_, _, _, _, _, _, _, _, _, _, _, _, _, _, rfl, _⟩ := h; rfl) | (obtain ⟨_, _, _, _, _, _, _, _, _, _, _, _, _, _, _, rfl, _⟩ := h; rfl) | (obtain ⟨_, _, _, _, _, _, _, _, _, _, _, _, _, _, _, _, rfl, _⟩ := h; rfl) | (obtain ⟨_, _, _, _, _, _, _, _, _, _, _, _, _, _, _, _, _, rfl, _⟩ := h; rfl) | (obtain ⟨_, _, _, _, _, _, _, _, _, _, _, _, _, _, _, _, _, _, rfl, _⟩ := h; rfl) | (obtain ⟨_, _, _, _, _, _, _, _, _, _, _, _, _, _, _, _, _, _, _, rfl, _⟩ := h; rfl) | (obtain ⟨_, _, _, _, _, _, _, _, _, _, _, _, _, _, _, _, _, _, _, _, rfl, _⟩ := h; rfl) | (obtain ⟨_, _, _, _, _, _, _, _, _, _, _, _, _, _, _, _, _, _, _, _, _, rfl, _⟩ := h; rfl) | (obtain ⟨_, _, _, _, _, _, _, _, _, _, _, _, _, _, _, _, _, _, _, _, _, _, rfl, _⟩ := h; rfl) | (obtain ⟨_, _, _, _, _, _, _, _, _, _, _, _, _, _, _, _, _, _, _, _, _, _, _, rfl, _⟩ := h; rfl)) (fun cdv A outer s H vs Q E pin hot1 hrH hot pz h => ?_)
  have hu := roomH_units hrH
  obtain ⟨p, q, us, ds, rfl, hp, hq, hl1, hl2, k⟩ := h
  refine ⟨_, (pss_cons (ps_if (PW.pt (pw_or (pt_not (pt_tru (pe_callB (call_isi) rfl T.b_isinstance (by decide +kernel) (pa_cons (pv 0) (pa_cons (pe_bltn (v := .ty "list") rfl T.b_list (by decide +kernel) rfl) pa_nil))))) (pw_or1 (pt_cmpA (o_ne hu) (pe_callB (b_len) rfl T.b_len (by decide +kernel) (pa_cons (pv 0) pa_nil)) (pe_callB (b_len) rfl T.b_len (by decide +kernel) (pa_cons (pv 1) pa_nil)) (nomark _))))) (pss_one (ps_ret pe_bl)) pss_nil)
      (pss_cons (L2H.ps_forH pz hot (L2H.pi_range1H rfl T.b_range (pa_cons (pe_callB (b_len) rfl T.b_len (by decide +kernel) (pa_cons (pv 1) pa_nil)) pa_nil)) (pg_name (i := 2) sch__law_integers.nd rfl (Or.inl rfl))
      (pss_one (ps_if (pt_not (pt_tru (pe_callHA H__law_is (L2H.RoomH.mono hrH (by decide)) hot T.n__law_is (pa_cons (pe_ix ix_seq (pv 0) (pv 2) (fun _ _ => rfl)) (pa_cons (pe_ix ix_seq (pv 1) (pv 2) (fun _ _ => rfl)) pa_nil))))) (pss_one (ps_ret pe_bl)) pss_nil)))
      (pss_one (ps_ret pe_bl)))), ?_⟩
  show (_ : Ends → L2.St → Hp → Prop) _ [some _, some _, none] _
  try dsimp only [L2H.cxH, cxOf]
  walk_at "w"
  refine w_iteN (fun c => ?_) (fun c => ?_)
  · walk_at "w"
    rw [show decide (us = ds) = false by simp; intro z; exact c (by rw [z])] at k
    exact k
  · walk_at "w"
    refine w_rng1 (n := (ds.length : Int)) (by omega) (by omega) (fun i σ' H' => (∃ x, σ' = [some (.ref p), some (.ref q), x]) ∧ H' = H ∧ ∀ j, j < i → us.getD j default = ds.getD j default) ⟨⟨_, rfl⟩, rfl, fun j hj => by omega⟩ ?_ ?_
    · rintro i σ' H' hi ⟨⟨x, rfl⟩, rfl, hj⟩
      walk_at "w"
      refine ⟨_, _, rfl, ?_⟩
      walk_at "w"
      refine w_iteN (fun c2 => ?_) (fun c2 => ?_)
      · walk_at "w"
        rw [ne_at c2] at k
        exact k
      · walk_at "w"
        refine ⟨⟨_, rfl⟩, rfl, fun j hj' => ?_⟩
        by_cases z : j < i
        · exact hj j z
        · obtain rfl : j = i := by omega
          exact c2
    · rintro σ' H' ⟨⟨x, rfl⟩, rfl, hj⟩
      walk_at "w"
      rw [show decide (us = ds) = true by simp; exact eq_at (by omega) (fun j h => hj j (by simpa using h))] at k
      exact k
/-! ### nodes, logs -/
def sp__law_node (a : AD) : Sp := fun vs H Q _ => ∃ (b q : Addr), vs = [.ref b] ∧ Box H b q ∧ ∀ (r : Int) (H' : Hp), 1 ≤ r → r < 1000000000 → Box H' b q → Kp [b] H H' → Q (.int r) H'
theorem sc__law_node : FnScope ["_law_box_here", "_law_kind", "_law_least"] ["_law_box_here"] (defScope s__law_node) := ⟨rfl, rfl, rfl, by decide +kernel, rfl, by decide +kernel, by decide +kernel⟩
theorem ok__law_node {P : Program} {w : World} {K : PySem.W.Frag} {mg : Str → Option Value} {base : Heap} {a : AD} (T : Txt P K mg a) (G__law_draw : FnA P w K mg base 2 a.f__law_draw ["_law_box_here", "_law_many"] (sp__law_draw a)) : FnA P w K mg base 3 a.f__law_node ["_law_box_here"] (sp__law_node a) := by
  obtain ⟨fd, F, b⟩ := T.F__law_node
  refine FnA.of F sc__law_node b (fun vs H Q E h => by first | (obtain ⟨rfl, _⟩ := h; rfl) | (obtain ⟨_, rfl, _⟩ := h; rfl) | (obtain ⟨_, _, rfl, _⟩ := h; rfl) | (obtain ⟨_, _, _, rfl, _⟩ := h; rfl) | (obtain ⟨_, _, _, _, rfl, _⟩ := h; rfl) | (obtain ⟨_, _, _, _, _, rfl, _⟩ := h; rfl) | (obtain ⟨_, _, _, _, _, _, rfl, _⟩ := h; rfl) | (obtain ⟨_, _, _, _, _, _, _, rfl, _⟩ := h; rfl) | (obtain ⟨_, _, _, _, _, _, _, _, rfl, _⟩ := h; rfl) | (obtain ⟨_, _, _, _, _, _, _, _, _, rfl, _⟩ := h; rfl) | (obtain ⟨_, _, _, _, _, _, _, _, _, _, rfl, _⟩ := h; rfl) | (obtain ⟨_, _, _, _, _, _, _, _, _, _, _, rfl, _⟩ := h; rfl) | (obtain ⟨_, _, _, _, _, _, _, _, _, _, _, _, rfl, _⟩ := h; rfl) | (obtain ⟨_, _, _, _, _, _, _, _, _, _, _, _, _, rfl, _⟩ := h; rfl) | (obtain ⟨_, _, _, _, _, _, _, _, _, _, _, _, _, _, rfl, _⟩ := h; rfl) | (obtain ⟨_, _, _, _, _, _, _, _, _, _, _, _, _, _, _, rfl, _⟩ := h; rfl) | (obtain ⟨_, _, _, _, _, _, _, _, _, _, _, _, _, _, _, _, rfl, _⟩ := h; rfl) | (obtain ⟨_, _, _, _, _, _, _, _, _, _, _, _, _, _, _, _, _, rfl, _⟩ := h; rfl) | (obtain ⟨_, _, _, _, _, _, _, _, _, _, _, _, _, _, _, _, _, _, rfl, _⟩ := h; rfl) | (obtain ⟨_, _, _, _, _, _, _, _, _, _, _, _, _, _, _, _, _, _, _, rfl, _⟩ := h; rfl) | (obtain ⟨_, _, _, _, _, _, _, _, _, _, _, _, _, _, _, _, _, _, _, _, rfl, _⟩ := h; rfl) | (obtain ⟨_, _, _, _, _, _, _, _, _, _, _, _, _, _, _, _, _, _, _, _, _, rfl, _⟩ := h; rfl) | (obtain ⟨_, _, _, _, _, _, _, _, _, _, _, _, _, _, _, _, _, _, _, _, _, _, rfl, _⟩ := h; rfl) | (obtain ⟨_, _, _, _, _, _, _, _, _, _, _, _, _, _, _, _, _, _, _, _, _, _, _, rfl, _⟩ := h; rfl)) (fun cdv A outer s H vs Q E hr tk pz h => ?_)
  have hu := hr.units
  have hrH := L2H.roomH_of hr
  obtain ⟨b, q, rfl, hB, k⟩ := h
  refine ⟨_, (pss_cons (ps_set (i := 1) sc__law_node.nd rfl (Or.inl rfl) (pe_callA G__law_draw (Room.mono hr (by decide)) T.n__law_draw tk (pa_cons (pv 0) (pa_cons pe_int pa_nil))))
      (pss_cons (ps_if (pt_cmpA (o_eq hu) (pv 1) pe_int (nomark _)) (pss_one (ps_ret (pe_op o_add pe_int (pe_callA G__law_draw (Room.mono hr (by decide)) T.n__law_draw tk (pa_cons (pv 0) (pa_cons pe_int pa_nil)))))) pss_nil)
      (pss_cons (ps_set (i := 2) sc__law_node.nd rfl (Or.inl rfl) (pe_ix ix_seq (pe_lst (pa_cons pe_int (pa_cons pe_int (pa_cons pe_int (pa_cons pe_int (pa_cons pe_int (pa_cons pe_int (pa_cons pe_int (pa_cons pe_int (pa_cons pe_int pa_nil)))))))))) (pe_callA G__law_draw (Room.mono hr (by decide)) T.n__law_draw tk (pa_cons (pv 0) (pa_cons pe_int pa_nil))) (fun _ _ => rfl)))
      (pss_cons (ps_if (pt_cmpA (o_eq hu) (pv 1) pe_int (nomark _)) (pss_one (ps_ret (pe_op o_add (pv 2) (pe_op o_mul (pe_op op_sub (pe_op o_mul pe_int (pv 2)) pe_int) (pe_callA G__law_draw (Room.mono hr (by decide)) T.n__law_draw tk (pa_cons (pv 0) (pa_cons pe_int pa_nil))))))) pss_nil)
      (pss_one (ps_ret (pe_op o_add (pv 2) (pe_callA G__law_draw (Room.mono hr (by decide)) T.n__law_draw tk (pa_cons (pv 0) (pa_cons (pe_op o_mul pe_int (pv 2)) pa_nil)))))))))), ?_⟩
  show (_ : Ends → L2.St → Hp → Prop) _ [some _, none, none] _
  try dsimp only [L2H.cxH, cxOf]
  walk_at "w"
  refine ⟨b, q, 3, rfl, hB, by omega, by omega, fun r1 H1 r0 r1' B1 k1 => ?_⟩
  walk_at "w"
  refine w_ite (fun c => ?_) (fun c => ?_)
  · walk_at "w"
    refine ⟨b, q, 60, rfl, B1, by omega, by omega, fun r2 H2 r20 r21 B2 k2 => ?_⟩
    walk_at "w"
    exact k _ _ (by omega) (by omega) B2 (k1.trans k2)
  · walk_at "w"
    intro L hL
    have e9 : (HO.lst [.int 1, .int 10, .int 100, .int 1000, .int 10000, .int 100000, .int 1000000, .int 10000000, .int 100000000]) = .lst (([1, 10, 100, 1000, 10000, 100000, 1000000, 10000000, 100000000] : List Int).map V.int) := rfl
    rw [e9]
    have kL := Kp.refl.new (ms := [b]) (o := .lst (([1, 10, 100, 1000, 10000, 100000, 1000000, 10000000, 100000000] : List Int).map V.int)) hL
    have hL1 := upd_same (H := H1) (a := L) (o := .lst (([1, 10, 100, 1000, 10000, 100000, 1000000, 10000000, 100000000] : List Int).map V.int))
    have B1' : Box (upd H1 L (.lst (([1, 10, 100, 1000, 10000, 100000, 1000000, 10000000, 100000000] : List Int).map V.int))) b q := B1.new hL
    have Lb : L ∉ [b] := fun z => B1.b hL (List.mem_singleton.mp z)
    generalize upd H1 L (.lst (([1, 10, 100, 1000, 10000, 100000, 1000000, 10000000, 100000000] : List Int).map V.int)) = H2 at kL hL1 B1' ⊢
    walk_at "w"
    refine ⟨b, q, 9, rfl, B1', by omega, by omega, fun r2 H3 r20 r21 B3 k3 => ?_⟩
    have hL3 := k3 L _ hL1 Lb
    have hl9 : ([1, 10, 100, 1000, 10000, 100000, 1000000, 10000000, 100000000] : List Int).length = 9 := rfl
    have hbd : 1 ≤ ([1, 10, 100, 1000, 10000, 100000, 1000000, 10000000, 100000000] : List Int).getD r2.toNat default ∧ ([1, 10, 100, 1000, 10000, 100000, 1000000, 10000000, 100000000] : List Int).getD r2.toNat default ≤ 100000000 := by
      rcases (show r2.toNat = 0 ∨ r2.toNat = 1 ∨ r2.toNat = 2 ∨ r2.toNat = 3 ∨ r2.toNat = 4 ∨ r2.toNat = 5 ∨ r2.toNat = 6 ∨ r2.toNat = 7 ∨ r2.toNat = 8 by omega) with z | z | z | z | z | z | z | z | z <;> (rw [z]; decide)
    walk_at "w"
    generalize ([1, 10, 100, 1000, 10000, 100000, 1000000, 10000000, 100000000] : List Int).getD r2.toNat default = least at hbd ⊢
    have k03 := (k1.trans kL).trans k3
    refine w_ite (fun c2 => ?_) (fun c2 => ?_)
    · walk_at "w"
      refine ⟨b, q, 2, rfl, B3, by omega, by omega, fun r3 H4 r30 r31 B4 k4 => ?_⟩
      walk_at "w"
      have hm : (9 * least - 1) * r3 = 0 ∨ (9 * least - 1) * r3 = 9 * least - 1 := by
        rcases (show r3 = 0 ∨ r3 = 1 by omega) with z | z
        · left; rw [z, Int.mul_zero]
        · right; rw [z, Int.mul_one]
      exact k _ _ (by omega) (by omega) B4 (k03.trans k4)
    · walk_at "w"
      refine ⟨b, q, _, rfl, B3, by omega, by omega, fun r3 H4 r30 r31 B4 k4 => ?_⟩
      walk_at "w"
      exact k _ _ (by omega) (by omega) B4 (k03.trans k4)
def OpsOk (us : List Int) : Prop := ∀ u ∈ us, u ≠ 0 ∧ u.natAbs < 1000000000
def sp__law_log (a : AD) : Sp := fun vs H Q _ => ∃ (b q : Addr), vs = [.ref b] ∧ Box H b q ∧ ∀ (p : Addr) (us : List Int) (H' : Hp), H p = none → H' p = some (.lst (us.map V.int)) → OpsOk us → us.length ≤ 47 → Box H' b q → Kp [b] H H' → Q (.ref p) H'
theorem sc__law_log : FnScope ["_law_box_here", "_law_count", "_law_log_here", "_law_k", "_law_node_here"] ["_law_box_here"] (defScope s__law_log) := ⟨rfl, rfl, rfl, by decide +kernel, rfl, by decide +kernel, by decide +kernel⟩
theorem ok__law_log {P : Program} {w : World} {K : PySem.W.Frag} {mg : Str → Option Value} {base : Heap} {a : AD} (T : Txt P K mg a) (G__law_draw : FnA P w K mg base 2 a.f__law_draw ["_law_box_here", "_law_many"] (sp__law_draw a)) (G__law_node : FnA P w K mg base 3 a.f__law_node ["_law_box_here"] (sp__law_node a)) : FnA P w K mg base 4 a.f__law_log ["_law_box_here"] (sp__law_log a) := by
  obtain ⟨fd, F, b⟩ := T.F__law_log
  refine FnA.of F sc__law_log b (fun vs H Q E h => by first | (obtain ⟨rfl, _⟩ := h; rfl) | (obtain ⟨_, rfl, _⟩ := h; rfl) | (obtain ⟨_, _, rfl, _⟩ := h; rfl) | (obtain ⟨_, _, _, rfl, _⟩ := h; rfl) | (obtain ⟨_, _, _, _, rfl, _⟩ := h; rfl) | (obtain ⟨_, _, _, _, _, rfl, _⟩ := h; rfl) | (obtain ⟨_, _, _, _, _, _, rfl, _⟩ := h; rfl) | (obtain ⟨_, _, _, _, _, _, _, rfl, _⟩ := h; rfl) | (obtain ⟨_, _, _, _, _, _, _, _, rfl, _⟩ := h; rfl) | (obtain ⟨_, _, _, _, _, _, _, _, _, rfl, _⟩ := h; rfl) | (obtain ⟨_, _, _, _, _, _, _, _, _, _, rfl, _⟩ := h; rfl) | (obtain ⟨_, _, _, _, _, _, _, _, _, _, _, rfl, _⟩ := h; rfl) | (obtain ⟨_, _, _, _, _, _, _, _, _, _, _, _, rfl, _⟩ := h; rfl) | (obtain ⟨_, _, _, _, _, _, _, _, _, _, _, _, _, rfl, _⟩ := h; rfl) | (obtain ⟨_, _, _, _, _, _, _, _, _, _, _, _, _, _, rfl, _⟩ := h; rfl) | (obtain ⟨_, _, _, _, _, _, _, _, _, _, _, _, _, _, _, rfl, _⟩ := h; rfl) | (obtain ⟨_, _, _, _, _, _, _, _, _, _, _, _, _, _, _, _, rfl, _⟩ := h; rfl) | (obtain ⟨_, _, _, _, _, _, _, _, _, _, _, _, _, _, _, _, _, rfl, _⟩ := h; rfl) | (obtain ⟨_, _, _, _, _, _, _, _, _, _, _, _, _, _, _, _, _, _, rfl, _⟩ := h; rfl) | (obtain ⟨_, _, _, _, _, _, _, _, _, _, _, _, _, _, _, _, _, _, _, rfl, _⟩ := h; rfl) | (obtain ⟨_, _, _, _, _, _, _, _, _, _, _, _, _, _, _, _, _, _, _, _, rfl, _⟩ := h; rfl) | (obtain ⟨_, _, _, _, _, _, _, _, _, _, _, _, _, _, _, _, _, _, _, _, _, rfl, _⟩ := h; rfl) | (obtain ⟨_, _, _, _, _, _, _, _, _, _, _, _, _, _, _, _, _, _, _, _, _, _, rfl, _⟩ := h; rfl) | (obtain ⟨_, _, _, _, _, _, _, _, _, _, _, _, _, _, _, _, _, _, _, _, _, _, _, rfl, _⟩ := h; rfl)) (fun cdv A outer s H vs Q E hr tk pz h => ?_)
  have hu := hr.units
  have hrH := L2H.roomH_of hr
  obtain ⟨b, q, rfl, hB, k⟩ := h
  refine ⟨_, (pss_cons (ps_set (i := 1) sc__law_log.nd rfl (Or.inl rfl) (pe_callA G__law_draw (Room.mono hr (by decide)) T.n__law_draw tk (pa_cons (pv 0) (pa_cons pe_int pa_nil))))
      (pss_cut (ps_if (pt_cmpA (o_eq hu) (pv 1) pe_int (nomark _)) (pss_one (ps_set (i := 1) sc__law_log.nd rfl (Or.inl rfl) (pe_op o_add pe_int (pe_callA G__law_draw (Room.mono hr (by decide)) T.n__law_draw tk (pa_cons (pv 0) (pa_cons pe_int pa_nil)))))) pss_nil)
      (pss_cons (ps_set (i := 2) sc__law_log.nd rfl (Or.inl rfl) (pe_lst pa_nil))
      (pss_cons (ps_for pz rfl (pi_range1 rfl T.b_range (pa_cons (pv 1) pa_nil)) (pg_name (i := 3) sc__law_log.nd rfl (Or.inl rfl))
      (pss_cons (ps_set (i := 4) sc__law_log.nd rfl (Or.inl rfl) (pe_callA G__law_node (Room.mono hr (by decide)) T.n__law_node tk (pa_cons (pv 0) pa_nil)))
      (pss_one (ps_if (pt_cmpA (o_eq hu) (pe_callA G__law_draw (Room.mono hr (by decide)) T.n__law_draw tk (pa_cons (pv 0) (pa_cons pe_int pa_nil))) pe_int (nomark _)) (pss_one (ps_expr (pe_bm PySem.F.plainAttrs_list PySem.F.slot_list_append PySem.F.type_list_append mt_append (pv 2) (pa_cons (pe_un un_neg (pv 4)) pa_nil)))) (pss_one (ps_expr (pe_bm PySem.F.plainAttrs_list PySem.F.slot_list_append PySem.F.type_list_append mt_append (pv 2) (pa_cons (pv 4) pa_nil))))))))
      (pss_one (ps_ret (pv 2))))))), ?_⟩
  show (_ : Ends → L2.St → Hp → Prop) _ [some _, none, none, none, none] _
  try dsimp only [L2H.cxH, cxOf]
  walk_at "w"
  refine ⟨b, q, 8, rfl, hB, by omega, by omega, fun r1 H1 r0 r1' B1 k1 => ?_⟩
  walk_at "w"
  refine s_cut (fun σ' H' => ∃ ct : Int, σ' = [some (.ref b), some (.int ct), none, none, none] ∧ 0 ≤ ct ∧ ct ≤ 47 ∧ Box H' b q ∧ Kp [b] H H') ?_ ?_
  · walk_at "w"
    refine w_ite (fun c => ?_) (fun c => ?_)
    · walk_at "w"
      refine ⟨b, q, 41, rfl, B1, by omega, by omega, fun r2 H2 r20 r21 B2 k2 => ?_⟩
      walk_at "w"
      exact ⟨_, rfl, by omega, by omega, B2, k1.trans k2⟩
    · walk_at "w"
      exact ⟨_, rfl, by omega, by omega, B1, k1⟩
  clear k1 B1 hB
  rintro σ' H1 ⟨ct, rfl, c0, c1, B1, k1⟩
  walk_at "w"
  intro p hp
  have kp := Kp.refl.new (ms := [b]) (o := .lst []) hp
  have hp2 : upd H1 p (.lst []) p = some (.lst (([] : List Int).map V.int)) := upd_same
  have B2 : Box (upd H1 p (.lst [])) b q := B1.new hp
  have pb : p ∉ [b] := fun z => B1.b hp (List.mem_singleton.mp z)
  have pq := B1.q hp
  have hp0 := kp_free B1 k1 hp
  have k2 := k1.trans kp
  generalize upd H1 p (.lst []) = H2 at hp2 B2 k2 ⊢
  clear kp hp B1 k1
  walk_at "w"
  refine w_rng1 (n := ct) (by omega) (by omega) (fun i σ' H' => ∃ (us : List Int) (z3 z4 : Option V), σ' = [some (.ref b), some (.int ct), some (.ref p), z3, z4] ∧ Kp [b] H H' ∧ Box H' b q ∧ H' p = some (.lst (us.map V.int)) ∧ us.length = i ∧ OpsOk us) ⟨[], _, _, rfl, k2, B2, hp2, rfl, fun u hu => absurd hu List.not_mem_nil⟩ ?_ ?_
  · clear k2 B2 hp2
    rintro i σ' H2 hi ⟨us, z3, z4, rfl, k2, B2, hp2, hul, hok⟩
    walk_at "w"
    refine ⟨b, q, rfl, B2, fun v H3 v1 v2 B3 k3 => ?_⟩
    have hp3 := k3 p _ hp2 pb
    have k03 := k2.trans k3
    walk_at "w"
    refine ⟨b, q, 2, rfl, B3, by omega, by omega, fun r3 H4 r30 r31 B4 k4 => ?_⟩
    have hp4 := k4 p _ hp3 pb
    have k04 := k03.trans k4
    have fin : ∀ u : Int, u ≠ 0 ∧ u.natAbs < 1000000000 → ∃ (us' : List Int) (z3 z4 : Option V), [some (V.ref b), some (.int ct), some (.ref p), some (.int (i : Int)), some (.int v)] = [some (V.ref b), some (.int ct), some (.ref p), z3, z4] ∧ Kp [b] H (upd H4 p (.lst ((us ++ [u]).map V.int))) ∧ Box (upd H4 p (.lst ((us ++ [u]).map V.int))) b q ∧ upd H4 p (.lst ((us ++ [u]).map V.int)) p = some (.lst (us'.map V.int)) ∧ us'.length = i + 1 ∧ OpsOk us' := fun u hu =>
      ⟨us ++ [u], _, _, rfl, k04.own hp0, B4.mut (fun z => pb (List.mem_singleton.mpr z)) pq, upd_same, by rw [List.length_append, hul]; rfl, fun w hw => by
        rcases List.mem_append.mp hw with z | z
        · exact hok w z
        · rw [List.mem_singleton.mp z]; exact hu⟩
    walk_at "w"
    refine w_ite (fun c => ?_) (fun c => ?_)
    · walk_at "w"
      exact fin (-v) ⟨by omega, by omega⟩
    · walk_at "w"
      exact fin v ⟨by omega, by omega⟩
  · rintro σ' H3 ⟨us, z3, z4, rfl, k3, B3, hp3, hul, hok⟩
    walk_at "w"
    exact k p us H3 hp0 hp3 hok (by omega) B3 k3
def sp__law_word (a : AD) : Sp := fun vs H Q _ => ∃ o : Int, vs = [.int o] ∧ o.natAbs < 1000000000 ∧ Q (.str (strP o)) H
theorem sc__law_word : FnScope ["_law_operation"] ["_law_operation"] (defScope s__law_word) := ⟨rfl, rfl, rfl, by decide +kernel, rfl, by decide +kernel, by decide +kernel⟩
theorem ok__law_word {P : Program} {w : World} {K : PySem.W.Frag} {mg : Str → Option Value} {base : Heap} {a : AD} (T : Txt P K mg a) : FnA P w K mg base 2 a.f__law_word ["_law_operation"] (sp__law_word a) := by
  obtain ⟨fd, F, b⟩ := T.F__law_word
  refine FnA.of F sc__law_word b (fun vs H Q E h => by first | (obtain ⟨rfl, _⟩ := h; rfl) | (obtain ⟨_, rfl, _⟩ := h; rfl) | (obtain ⟨_, _, rfl, _⟩ := h; rfl) | (obtain ⟨_, _, _, rfl, _⟩ := h; rfl) | (obtain ⟨_, _, _, _, rfl, _⟩ := h; rfl) | (obtain ⟨_, _, _, _, _, rfl, _⟩ := h; rfl) | (obtain ⟨_, _, _, _, _, _, rfl, _⟩ := h; rfl) | (obtain ⟨_, _, _, _, _, _, _, rfl, _⟩ := h; rfl) | (obtain ⟨_, _, _, _, _, _, _, _, rfl, _⟩ := h; rfl) | (obtain ⟨_, _, _, _, _, _, _, _, _, rfl, _⟩ := h; rfl) | (obtain ⟨_, _, _, _, _, _, _, _, _, _, rfl, _⟩ := h; rfl) | (obtain ⟨_, _, _, _, _, _, _, _, _, _, _, rfl, _⟩ := h; rfl) | (obtain ⟨_, _, _, _, _, _, _, _, _, _, _, _, rfl, _⟩ := h; rfl) | (obtain ⟨_, _, _, _, _, _, _, _, _, _, _, _, _, rfl, _⟩ := h; rfl) | (obtain ⟨_, _, _, _, _, _, _, _, _, _, _, _, _, _, rfl, _⟩ := h; rfl) | (obtain ⟨_, _, _, _, _, _, _, _, _, _, _, _, _, _, _, rfl, _⟩ := h; rfl) | (obtain ⟨_, _, _, _, _, _, _, _, _, _, _, _, _, _, _, _, rfl, _⟩ := h; rfl) | (obtain ⟨_, _, _, _, _, _, _, _, _, _, _, _, _, _, _, _, _, rfl, _⟩ := h; rfl) | (obtain ⟨_, _, _, _, _, _, _, _, _, _, _, _, _, _, _, _, _, _, rfl, _⟩ := h; rfl) | (obtain ⟨_, _, _, _, _, _, _, _, _, _, _, _, _, _, _, _, _, _, _, rfl, _⟩ := h; rfl) | (obtain ⟨_, _, _, _, _, _, _, _, _, _, _, _, _, _, _, _, _, _, _, _, rfl, _⟩ := h; rfl) | (obtain ⟨_, _, _, _, _, _, _, _, _, _, _, _, _, _, _, _, _, _, _, _, _, rfl, _⟩ := h; rfl) | (obtain ⟨_, _, _, _, _, _, _, _, _, _, _, _, _, _, _, _, _, _, _, _, _, _, rfl, _⟩ := h; rfl) | (obtain ⟨_, _, _, _, _, _, _, _, _, _, _, _, _, _, _, _, _, _, _, _, _, _, _, rfl, _⟩ := h; rfl)) (fun cdv A outer s H vs Q E hr tk pz h => ?_)
  have hu := hr.units
  have hrH := L2H.roomH_of hr
  obtain ⟨o, rfl, ho, k⟩ := h
  refine ⟨_, (pss_cons (ps_if (pt_cmpA op_lt (pv 0) pe_int (nomark _)) (pss_one (ps_ret (pe_op o_add pe_str (pe_callTy b_str rfl T.b_str (by decide +kernel) (pa_cons (pe_un un_neg (pv 0)) pa_nil))))) pss_nil)
      (pss_one (ps_ret (pe_op o_add pe_str (pe_callTy b_str rfl T.b_str (by decide +kernel) (pa_cons (pv 0) pa_nil)))))), ?_⟩
  show (_ : Ends → L2.St → Hp → Prop) _ [some _] _
  try dsimp only [L2H.cxH, cxOf]
  unfold strP at k
  walk_at "w"
  refine w_ite (fun c => ?_) (fun c => ?_)
  · rw [if_pos c, show ((o.natAbs : Nat) : Int) = -o by omega] at k
    have hsl : (Str.ofString (toString (-o))).length ≤ 9 := strI_len (by omega) (by omega)
    have h1 : ("-" : Str).length ≤ 1 := by decide
    walk_at "w"
    exact k
  · rw [if_neg c, show ((o.natAbs : Nat) : Int) = o by omega] at k
    have hsl : (Str.ofString (toString o)).length ≤ 9 := strI_len (by omega) (by omega)
    have h1 : ("+" : Str).length ≤ 1 := by decide
    walk_at "w"
    exact k
/-! ### spoilt texts -/
def sp__law_sign (a : AD) : Sp := fun vs H Q _ => ∃ (b q : Addr), vs = [.ref b] ∧ Box H b q ∧ ∀ (w : Str) (H' : Hp), w.length ≤ 1 → Box H' b q → Kp [b] H H' → Q (.str w) H'
theorem sc__law_sign : FnScope ["_law_box_here", "_law_signs"] ["_law_box_here"] (defScope s__law_sign) := ⟨rfl, rfl, rfl, by decide +kernel, rfl, by decide +kernel, by decide +kernel⟩
theorem ok__law_sign {P : Program} {w : World} {K : PySem.W.Frag} {mg : Str → Option Value} {base : Heap} {a : AD} (T : Txt P K mg a) (G__law_draw : FnA P w K mg base 2 a.f__law_draw ["_law_box_here", "_law_many"] (sp__law_draw a)) : FnA P w K mg base 3 a.f__law_sign ["_law_box_here"] (sp__law_sign a) := by
  obtain ⟨fd, F, b⟩ := T.F__law_sign
  refine FnA.of F sc__law_sign b (fun vs H Q E h => by first | (obtain ⟨rfl, _⟩ := h; rfl) | (obtain ⟨_, rfl, _⟩ := h; rfl) | (obtain ⟨_, _, rfl, _⟩ := h; rfl) | (obtain ⟨_, _, _, rfl, _⟩ := h; rfl) | (obtain ⟨_, _, _, _, rfl, _⟩ := h; rfl) | (obtain ⟨_, _, _, _, _, rfl, _⟩ := h; rfl) | (obtain ⟨_, _, _, _, _, _, rfl, _⟩ := h; rfl) | (obtain ⟨_, _, _, _, _, _, _, rfl, _⟩ := h; rfl) | (obtain ⟨_, _, _, _, _, _, _, _, rfl, _⟩ := h; rfl) | (obtain ⟨_, _, _, _, _, _, _, _, _, rfl, _⟩ := h; rfl) | (obtain ⟨_, _, _, _, _, _, _, _, _, _, rfl, _⟩ := h; rfl) | (obtain ⟨_, _, _, _, _, _, _, _, _, _, _, rfl, _⟩ := h; rfl) | (obtain ⟨_, _, _, _, _, _, _, _, _, _, _, _, rfl, _⟩ := h; rfl) | (obtain ⟨_, _, _, _, _, _, _, _, _, _, _, _, _, rfl, _⟩ := h; rfl) | (obtain ⟨_, _, _, _, _, _, _, _, _, _, _, _, _, _, rfl, _⟩ := h; rfl) | (obtain ⟨_, _, _, _, _, _, _, _, _, _, _, _, _, _, _, rfl, _⟩ := h; rfl) | (obtain ⟨_, _, _, _, _, _, _, _, _, _, _, _, _, _, _, _, rfl, _⟩ := h; rfl) | (obtain ⟨_, _, _, _, _, _, _, _, _, _, _, _, _, _, _, _, _, rfl, _⟩ := h; rfl) | (obtain ⟨_, _, _, _, _, _, _, _, _, _, _, _, _, _, _, _, _, _, rfl, _⟩ := h; rfl) | (obtain ⟨_, _, _, _, _, _, _, _, _, _, _, _, _, _, _, _, _, _, _, rfl, _⟩ := h; rfl) | (obtain ⟨_, _, _, _, _, _, _, _, _, _, _, _, _, _, _, _, _, _, _, _, rfl, _⟩ := h; rfl) | (obtain ⟨_, _, _, _, _, _, _, _, _, _, _, _, _, _, _, _, _, _, _, _, _, rfl, _⟩ := h; rfl) | (obtain ⟨_, _, _, _, _, _, _, _, _, _, _, _, _, _, _, _, _, _, _, _, _, _, rfl, _⟩ := h; rfl) | (obtain ⟨_, _, _, _, _, _, _, _, _, _, _, _, _, _, _, _, _, _, _, _, _, _, _, rfl, _⟩ := h; rfl)) (fun cdv A outer s H vs Q E hr tk pz h => ?_)
  have hu := hr.units
  have hrH := L2H.roomH_of hr
  obtain ⟨b, q, rfl, hB, k⟩ := h
  refine ⟨_, (pss_cons (ps_if (pt_cmpA (o_eq hu) (pe_callA G__law_draw (Room.mono hr (by decide)) T.n__law_draw tk (pa_cons (pv 0) (pa_cons pe_int pa_nil))) pe_int (nomark _)) (pss_one (ps_ret (pe_ix ix_seq pe_str (pe_callA G__law_draw (Room.mono hr (by decide)) T.n__law_draw tk (pa_cons (pv 0) (pa_cons pe_int pa_nil))) (fun _ _ => rfl)))) pss_nil)
      (pss_cons (ps_set (i := 1) sc__law_sign.nd rfl (Or.inl rfl) pe_str)
      (pss_cons (ps_set (i := 1) sc__law_sign.nd rfl (Or.inl rfl) (pe_op o_add (pv 1) pe_str))
      (pss_one (ps_ret (pe_ix ix_seq (pv 1) (pe_callA G__law_draw (Room.mono hr (by decide)) T.n__law_draw tk (pa_cons (pv 0) (pa_cons pe_int pa_nil))) (fun _ _ => rfl))))))), ?_⟩
  show (_ : Ends → L2.St → Hp → Prop) _ [some _, none] _
  try dsimp only [L2H.cxH, cxOf]
  walk_at "w"
  refine ⟨b, q, 2, rfl, hB, by omega, by omega, fun r1 H1 r0 r1' B1 k1 => ?_⟩
  walk_at "w"
  refine w_ite (fun c => ?_) (fun c => ?_)
  · walk_at "w"
    refine ⟨b, q, 13, rfl, B1, by omega, by omega, fun r2 H2 r20 r21 B2 k2 => ?_⟩
    refine w_ixS' (by decide +kernel) r20 (lt_len r21 (by decide +kernel)) fun c => ?_
    exact k _ H2 (by show 1 ≤ 1; omega) B2 (k1.trans k2)
  · walk_at "w"
    refine ⟨b, q, 96, rfl, B1, by omega, by omega, fun r2 H2 r20 r21 B2 k2 => ?_⟩
    refine w_ixS' (by decide +kernel) r20 (lt_len r21 (by decide +kernel)) fun c => ?_
    exact k _ H2 (by show 1 ≤ 1; omega) B2 (k1.trans k2)
def sp__law_odd_word (a : AD) : Sp := fun vs H Q _ => ∃ (b q : Addr) (w : Str), vs = [.ref b, .str w] ∧ Box H b q ∧ w.length ≤ 100000 ∧ ∀ (v : Str) (H' : Hp), v.length ≤ 2 * w.length + 20 → Box H' b q → Kp [b] H H' → Q (.str v) H'
theorem sc__law_odd_word : FnScope ["_law_box_here", "_law_word_here", "_law_kind", "_law_odd"] ["_law_box_here", "_law_word_here"] (defScope s__law_odd_word) := ⟨rfl, rfl, rfl, by decide +kernel, rfl, by decide +kernel, by decide +kernel⟩
theorem ok__law_odd_word {P : Program} {w : World} {K : PySem.W.Frag} {mg : Str → Option Value} {base : Heap} {a : AD} (T : Txt P K mg a) (G__law_draw : FnA P w K mg base 2 a.f__law_draw ["_law_box_here", "_law_many"] (sp__law_draw a)) : FnA P w K mg base 3 a.f__law_odd_word ["_law_box_here", "_law_word_here"] (sp__law_odd_word a) := by
  obtain ⟨fd, F, b⟩ := T.F__law_odd_word
  refine FnA.of F sc__law_odd_word b (fun vs H Q E h => by first | (obtain ⟨rfl, _⟩ := h; rfl) | (obtain ⟨_, rfl, _⟩ := h; rfl) | (obtain ⟨_, _, rfl, _⟩ := h; rfl) | (obtain ⟨_, _, _, rfl, _⟩ := h; rfl) | (obtain ⟨_, _, _, _, rfl, _⟩ := h; rfl) | (obtain ⟨_, _, _, _, _, rfl, _⟩ := h; rfl) | (obtain ⟨_, _, _, _, _, _, rfl, _⟩ := h; rfl) | (obtain ⟨_, _, _, _, _, _, _, rfl, _⟩ := h; rfl) | (obtain ⟨_, _, _, _, _, _, _, _, rfl, _⟩ := h; rfl) | (obtain ⟨_, _, _, _, _, _, _, _, _, rfl, _⟩ := h; rfl) | (obtain ⟨_, _, _, _, _, _, _, _, _, _, rfl, _⟩ := h; rfl) | (obtain ⟨_, _, _, _, _, _, _, _, _, _, _, rfl, _⟩ := h; rfl) | (obtain ⟨_, _, _, _, _, _, _, _, _, _, _, _, rfl, _⟩ := h; rfl) | (obtain ⟨_, _, _, _, _, _, _, _, _, _, _, _, _, rfl, _⟩ := h; rfl) | (obtain ⟨_, _, _, _, _, _, _, _, _, _, _, _, _, _, rfl, _⟩ := h; rfl) | (obtain ⟨_, _, _, _, _, _, _, _, _, _, _, _, _, _, _, rfl, _⟩ := h; rfl) | (obtain ⟨_, _, _, _, _, _, _, _, _, _, _, _, _, _, _, _, rfl, _⟩ := h; rfl) | (obtain ⟨_, _, _, _, _, _, _, _, _, _, _, _, _, _, _, _, _, rfl, _⟩ := h; rfl) | (obtain ⟨_, _, _, _, _, _, _, _, _, _, _, _, _, _, _, _, _, _, rfl, _⟩ := h; rfl) | (obtain ⟨_, _, _, _, _, _, _, _, _, _, _, _, _, _, _, _, _, _, _, rfl, _⟩ := h; rfl) | (obtain ⟨_, _, _, _, _, _, _, _, _, _, _, _, _, _, _, _, _, _, _, _, rfl, _⟩ := h; rfl) | (obtain ⟨_, _, _, _, _, _, _, _, _, _, _, _, _, _, _, _, _, _, _, _, _, rfl, _⟩ := h; rfl) | (obtain ⟨_, _, _, _, _, _, _, _, _, _, _, _, _, _, _, _, _, _, _, _, _, _, rfl, _⟩ := h; rfl) | (obtain ⟨_, _, _, _, _, _, _, _, _, _, _, _, _, _, _, _, _, _, _, _, _, _, _, rfl, _⟩ := h; rfl)) (fun cdv A outer s H vs Q E hr tk pz h => ?_)
  have hu := hr.units
  have hrH := L2H.roomH_of hr
  obtain ⟨b, q, w, rfl, hB, hw, k⟩ := h
  refine ⟨_, (pss_cons (ps_set (i := 2) sc__law_odd_word.nd rfl (Or.inl rfl) (pe_callA G__law_draw (Room.mono hr (by decide)) T.n__law_draw tk (pa_cons (pv 0) (pa_cons pe_int pa_nil))))
      (pss_cons (ps_if (pt_cmpA (o_eq hu) (pv 2) pe_int (nomark _)) (pss_one (ps_ret (pe_slice sl_any (pv 1) (po_some pe_int) po_none))) pss_nil)
      (pss_cons (ps_if (pt_cmpA (o_eq hu) (pv 2) pe_int (nomark _)) (pss_one (ps_ret (pe_slice sl_any (pv 1) po_none (po_some pe_int)))) pss_nil)
      (pss_cons (ps_if (pt_cmpA (o_eq hu) (pv 2) pe_int (nomark _)) (pss_one (ps_ret (pe_op o_add (pe_op o_add (pe_slice sl_any (pv 1) po_none (po_some pe_int)) pe_str) (pe_slice sl_any (pv 1) (po_some pe_int) po_none)))) pss_nil)
      (pss_cons (ps_if (pt_cmpA (o_eq hu) (pv 2) pe_int (nomark _)) (pss_one (ps_ret pe_str)) pss_nil)
      (pss_cons (ps_if (pt_cmpA (o_eq hu) (pv 2) pe_int (nomark _)) (pss_one (ps_ret (pe_op o_add (pv 1) (pe_slice sl_any pe_str po_none (po_some (pe_op o_add pe_int (pe_callA G__law_draw (Room.mono hr (by decide)) T.n__law_draw tk (pa_cons (pv 0) (pa_cons pe_int pa_nil))))))))) pss_nil)
      (pss_cons (ps_if (pt_cmpA (o_eq hu) (pv 2) pe_int (nomark _)) (pss_one (ps_ret (pe_op o_add (pe_slice sl_any (pv 1) po_none (po_some pe_int)) (pv 1)))) pss_nil)
      (pss_cons (ps_if (pt_cmpA (o_eq hu) (pv 2) pe_int (nomark _)) (pss_one (ps_ret (pe_op o_add (pv 1) (pe_slice sl_any (pv 1) po_none (po_some pe_int))))) pss_nil)
      (pss_cons (ps_set (i := 3) sc__law_odd_word.nd rfl (Or.inl rfl) (pe_lst (pa_cons pe_str (pa_cons pe_str (pa_cons pe_str (pa_cons pe_str (pa_cons pe_str (pa_cons pe_str (pa_cons pe_str (pa_cons pe_str (pa_cons pe_str (pa_cons pe_str (pa_cons pe_str (pa_cons pe_str (pa_cons pe_str (pa_cons pe_str pa_nil))))))))))))))))
      (pss_cons (ps_set (i := 3) sc__law_odd_word.nd rfl (Or.inl rfl) (pe_op o_add (pv 3) (pe_lst (pa_cons pe_str (pa_cons pe_str (pa_cons pe_str (pa_cons pe_str (pa_cons pe_str (pa_cons pe_str pa_nil)))))))))
      (pss_one (ps_ret (pe_ix ix_seq (pv 3) (pe_callA G__law_draw (Room.mono hr (by decide)) T.n__law_draw tk (pa_cons (pv 0) (pa_cons pe_int pa_nil))) (fun _ _ => rfl)))))))))))))), ?_⟩
  show (_ : Ends → L2.St → Hp → Prop) _ [some _, some _, none, none] _
  try dsimp only [L2H.cxH, cxOf]
  have l1 := cutS_len w (some 1) none
  have l2 := cutS_len w none (some 1)
  have l3 : ("0" : Str).length = 1 := by decide
  have l4 : ("0123456789" : Str).length = 10 := by decide
  have l5 : ("" : Str).length = 0 := by decide
  have l7 := app_len (cutS w none (some 1)) "0"
  walk_at "w"
  refine ⟨b, q, 9, rfl, hB, by omega, by omega, fun r1 H1 r0 r1' B1 k1 => ?_⟩
  have done : ∀ v : Str, v.length ≤ 2 * w.length + 20 → Q (.str v) H1 := fun v hv => k v H1 hv B1 k1
  walk_at "w"
  refine w_ite (fun c => ?_) (fun c => ?_)
  · walk_at "w"
    exact done _ (by omega)
  walk_at "w"
  refine w_ite (fun c => ?_) (fun c => ?_)
  · walk_at "w"
    exact done _ (by omega)
  walk_at "w"
  refine w_ite (fun c => ?_) (fun c => ?_)
  · walk_at "w"
    exact done _ (by rw [app_len, app_len]; omega)
  walk_at "w"
  refine w_ite (fun c => ?_) (fun c => ?_)
  · walk_at "w"
    exact done _ (by omega)
  walk_at "w"
  refine w_ite (fun c => ?_) (fun c => ?_)
  · walk_at "w"
    refine ⟨b, q, 10, rfl, B1, by omega, by omega, fun r2 H2 r20 r21 B2 k2 => ?_⟩
    walk_at "w"
    have l6 := cutS_len "0123456789" none (some (1 + r2))
    walk_at "w"
    exact k _ H2 (by rw [app_len]; omega) B2 (k1.trans k2)
  walk_at "w"
  refine w_ite (fun c => ?_) (fun c => ?_)
  · walk_at "w"
    exact done _ (by rw [app_len]; omega)
  walk_at "w"
  refine w_ite (fun c => ?_) (fun c => ?_)
  · walk_at "w"
    exact done _ (by rw [app_len]; omega)
  walk_at "w"
  intro L1 hL1
  walk_at "w"
  intro L2 hL2
  have k2 := ((Kp.refl (ms := [b]) (H := H1)).new hL1 (o := .lst ((["0", "+0", "-0", "-00", "--", "+-", "none", "+x", "-1x", "+x1", "+1.0", "+1_0", "1-", "+1\n"] : List Str).map V.str))).new hL2 (o := .lst ((["\t+1", "-1\t", "=1", "+1+1", "5", "-"] : List Str).map V.str))
  have hL13 : upd (upd H1 L1 (.lst ((["0", "+0", "-0", "-00", "--", "+-", "none", "+x", "-1x", "+x1", "+1.0", "+1_0", "1-", "+1\n"] : List Str).map V.str))) L2 (.lst ((["\t+1", "-1\t", "=1", "+1+1", "5", "-"] : List Str).map V.str)) L1 = some (.lst ((["0", "+0", "-0", "-00", "--", "+-", "none", "+x", "-1x", "+x1", "+1.0", "+1_0", "1-", "+1\n"] : List Str).map V.str)) := upd_new hL2 upd_same
  have hL23 : upd (upd H1 L1 (.lst ((["0", "+0", "-0", "-00", "--", "+-", "none", "+x", "-1x", "+x1", "+1.0", "+1_0", "1-", "+1\n"] : List Str).map V.str))) L2 (.lst ((["\t+1", "-1\t", "=1", "+1+1", "5", "-"] : List Str).map V.str)) L2 = some (.lst ((["\t+1", "-1\t", "=1", "+1+1", "5", "-"] : List Str).map V.str)) := upd_same
  have B3 : Box (upd (upd H1 L1 (.lst ((["0", "+0", "-0", "-00", "--", "+-", "none", "+x", "-1x", "+x1", "+1.0", "+1_0", "1-", "+1\n"] : List Str).map V.str))) L2 (.lst ((["\t+1", "-1\t", "=1", "+1+1", "5", "-"] : List Str).map V.str))) b q := (B1.new hL1).new hL2
  show aAdd _ _ (upd (upd H1 L1 (.lst ((["0", "+0", "-0", "-00", "--", "+-", "none", "+x", "-1x", "+x1", "+1.0", "+1_0", "1-", "+1\n"] : List Str).map V.str))) L2 (.lst ((["\t+1", "-1\t", "=1", "+1+1", "5", "-"] : List Str).map V.str))) _
  generalize upd (upd H1 L1 (.lst ((["0", "+0", "-0", "-00", "--", "+-", "none", "+x", "-1x", "+x1", "+1.0", "+1_0", "1-", "+1\n"] : List Str).map V.str))) L2 (.lst ((["\t+1", "-1\t", "=1", "+1+1", "5", "-"] : List Str).map V.str)) = H3 at k2 hL13 hL23 B3 ⊢
  refine w_addLM (us := (["0", "+0", "-0", "-00", "--", "+-", "none", "+x", "-1x", "+x1", "+1.0", "+1_0", "1-", "+1\n"] : List Str)) (vs := (["\t+1", "-1\t", "=1", "+1+1", "5", "-"] : List Str)) hL13 hL23 (by rw [sizeLine_eq]; decide) fun r hr => ?_
  have kr := Kp.refl.new (ms := [b]) (o := .lst (((["0", "+0", "-0", "-00", "--", "+-", "none", "+x", "-1x", "+x1", "+1.0", "+1_0", "1-", "+1\n"] : List Str) ++ (["\t+1", "-1\t", "=1", "+1+1", "5", "-"] : List Str)).map V.str)) hr
  have hr4 := upd_same (H := H3) (a := r) (o := .lst (((["0", "+0", "-0", "-00", "--", "+-", "none", "+x", "-1x", "+x1", "+1.0", "+1_0", "1-", "+1\n"] : List Str) ++ (["\t+1", "-1\t", "=1", "+1+1", "5", "-"] : List Str)).map V.str))
  have B4 : Box (upd H3 r (.lst (((["0", "+0", "-0", "-00", "--", "+-", "none", "+x", "-1x", "+x1", "+1.0", "+1_0", "1-", "+1\n"] : List Str) ++ (["\t+1", "-1\t", "=1", "+1+1", "5", "-"] : List Str)).map V.str))) b q := B3.new hr
  have rb : r ∉ [b] := fun z => B3.b hr (List.mem_singleton.mp z)
  have hel : ∀ x ∈ (["0", "+0", "-0", "-00", "--", "+-", "none", "+x", "-1x", "+x1", "+1.0", "+1_0", "1-", "+1\n"] : List Str) ++ (["\t+1", "-1\t", "=1", "+1+1", "5", "-"] : List Str), x.length ≤ 20 := by decide +kernel
  have hln : ((["0", "+0", "-0", "-00", "--", "+-", "none", "+x", "-1x", "+x1", "+1.0", "+1_0", "1-", "+1\n"] : List Str) ++ (["\t+1", "-1\t", "=1", "+1+1", "5", "-"] : List Str)).length = 20 := by decide
  generalize (["0", "+0", "-0", "-00", "--", "+-", "none", "+x", "-1x", "+x1", "+1.0", "+1_0", "1-", "+1\n"] : List Str) ++ (["\t+1", "-1\t", "=1", "+1+1", "5", "-"] : List Str) = all at kr hr4 B4 hel hln ⊢
  generalize upd H3 r (.lst (all.map V.str)) = H4 at kr hr4 B4 ⊢
  walk_at "w"
  refine ⟨b, q, 20, rfl, B4, by omega, by omega, fun r2 H5 r20 r21 B5 k5 => ?_⟩
  have hr5 := k5 r _ hr4 rb
  walk_at "w"
  refine k _ H5 ?_ B5 (((k1.trans k2).trans kr).trans k5)
  have := hel (all.getD r2.toNat default) (by
    rw [List.getD_eq_getElem?_getD, List.getElem?_eq_getElem (show r2.toNat < all.length by omega)]
    exact List.getElem_mem _)
  omega
def sp__law_spoilt (a : AD) : Sp := fun vs H Q _ => ∃ (b q : Addr) (z : Str), vs = [.ref b, .str z] ∧ Box H b q ∧ z.length ≤ 100000 ∧ ∀ (v : Str) (H' : Hp), v.length ≤ 4 * z.length + 30 → Box H' b q → Kp [b] H H' → Q (.str v) H'
theorem sc__law_spoilt : FnScope ["_law_box_here", "_law_text", "_law_kind", "_law_words", "_law_place", "_law_spot"] ["_law_box_here", "_law_text"] (defScope s__law_spoilt) := ⟨rfl, rfl, rfl, by decide +kernel, rfl, by decide +kernel, by decide +kernel⟩
theorem ok__law_spoilt {P : Program} {w : World} {K : PySem.W.Frag} {mg : Str → Option Value} {base : Heap} {a : AD} (T : Txt P K mg a) (G__law_draw : FnA P w K mg base 2 a.f__law_draw ["_law_box_here", "_law_many"] (sp__law_draw a)) (G__law_odd_word : FnA P w K mg base 3 a.f__law_odd_word ["_law_box_here", "_law_word_here"] (sp__law_odd_word a)) (G__law_sign : FnA P w K mg base 3 a.f__law_sign ["_law_box_here"] (sp__law_sign a)) : FnA P w K mg base 4 a.f__law_spoilt ["_law_box_here", "_law_text"] (sp__law_spoilt a) := by
  obtain ⟨fd, F, b⟩ := T.F__law_spoilt
  refine FnA.of F sc__law_spoilt b (fun vs H Q E h => by first | (obtain ⟨rfl, _⟩ := h; rfl) | (obtain ⟨_, rfl, _⟩ := h; rfl) | (obtain ⟨_, _, rfl, _⟩ := h; rfl) | (obtain ⟨_, _, _, rfl, _⟩ := h; rfl) | (obtain ⟨_, _, _, _, rfl, _⟩ := h; rfl) | (obtain ⟨_, _, _, _, _, rfl, _⟩ := h; rfl) | (obtain ⟨_, _, _, _, _, _, rfl, _⟩ := h; rfl) | (obtain ⟨_, _, _, _, _, _, _, rfl, _⟩ := h; rfl) | (obtain ⟨_, _, _, _, _, _, _, _, rfl, _⟩ := h; rfl) | (obtain ⟨_, _, _, _, _, _, _, _, _, rfl, _⟩ := h; rfl) | (obtain ⟨_, _, _, _, _, _, _, _, _, _, rfl, _⟩ := h; rfl) | (obtain ⟨_, _, _, _, _, _, _, _, _, _, _, rfl, _⟩ := h; rfl) | (obtain ⟨_, _, _, _, _, _, _, _, _, _, _, _, rfl, _⟩ := h; rfl) | (obtain ⟨_, _, _, _, _, _, _, _, _, _, _, _, _, rfl, _⟩ := h; rfl) | (obtain ⟨_, _, _, _, _, _, _, _, _, _, _, _, _, _, rfl, _⟩ := h; rfl) | (obtain ⟨_, _, _, _, _, _, _, _, _, _, _, _, _, _, _, rfl, _⟩ := h; rfl) | (obtain ⟨_, _, _, _, _, _, _, _, _, _, _, _, _, _, _, _, rfl, _⟩ := h; rfl) | (obtain ⟨_, _, _, _, _, _, _, _, _, _, _, _, _, _, _, _, _, rfl, _⟩ := h; rfl) | (obtain ⟨_, _, _, _, _, _, _, _, _, _, _, _, _, _, _, _, _, _, rfl, _⟩ := h; rfl) | (obtain ⟨_, _, _, _, _, _, _, _, _, _, _, _, _, _, _, _, _, _, _, rfl, _⟩ := h; rfl) | (obtain ⟨_, _, _, _, _, _, _, _, _, _, _, _, _, _, _, _, _, _, _, _, rfl, _⟩ := h; rfl) | (obtain ⟨_, _, _, _, _, _, _, _, _, _, _, _, _, _, _, _, _, _, _, _, _, rfl, _⟩ := h; rfl) | (obtain ⟨_, _, _, _, _, _, _, _, _, _, _, _, _, _, _, _, _, _, _, _, _, _, rfl, _⟩ := h; rfl) | (obtain ⟨_, _, _, _, _, _, _, _, _, _, _, _, _, _, _, _, _, _, _, _, _, _, _, rfl, _⟩ := h; rfl)) (fun cdv A outer s H vs Q E hr tk pz h => ?_)
  have hu := hr.units
  have hrH := L2H.roomH_of hr
  obtain ⟨b, q, z, rfl, hB, hz, k⟩ := h
  refine ⟨_, (pss_cons (ps_set (i := 2) sc__law_spoilt.nd rfl (Or.inl rfl) (pe_callA G__law_draw (Room.mono hr (by decide)) T.n__law_draw tk (pa_cons (pv 0) (pa_cons pe_int pa_nil))))
      (pss_cons (ps_set (i := 3) sc__law_spoilt.nd rfl (Or.inl rfl) (pe_bm PySem.F.plainAttrs_str PySem.F.slot_str_split PySem.F.type_str_split m_split (pv 1) (pa_cons pe_str pa_nil)))
      (pss_cons (ps_set (i := 4) sc__law_spoilt.nd rfl (Or.inl rfl) (pe_callA G__law_draw (Room.mono hr (by decide)) T.n__law_draw tk (pa_cons (pv 0) (pa_cons (pe_callB (b_len) rfl T.b_len (by decide +kernel) (pa_cons (pv 3) pa_nil)) pa_nil))))
      (pss_cons (ps_if (pt_cmpA (o_eq hu) (pv 2) pe_int (nomark _)) (pss_cons (ps_asg (pe_callA G__law_odd_word (Room.mono hr (by decide)) T.n__law_odd_word tk (pa_cons (pv 0) (pa_cons (pe_ix ix_seq (pv 3) (pv 4) (fun _ _ => rfl)) pa_nil))) (pg_sub (pv 3) (pv 4) set_list))
      (pss_one (ps_ret (pe_bm PySem.F.plainAttrs_str PySem.F.slot_str_join PySem.F.type_str_join m_join pe_str (pa_cons (pv 3) pa_nil))))) pss_nil)
      (pss_cons (ps_if (pt_cmpA (o_eq hu) (pv 2) pe_int (nomark _)) (pss_cons (ps_expr (pe_bm PySem.F.plainAttrs_list PySem.F.slot_list_insert PySem.F.type_list_insert m_insert (pv 3) (pa_cons (pv 4) (pa_cons (pe_callA G__law_odd_word (Room.mono hr (by decide)) T.n__law_odd_word tk (pa_cons (pv 0) (pa_cons (pe_ix ix_seq (pv 3) (pv 4) (fun _ _ => rfl)) pa_nil))) pa_nil))))
      (pss_one (ps_ret (pe_bm PySem.F.plainAttrs_str PySem.F.slot_str_join PySem.F.type_str_join m_join pe_str (pa_cons (pv 3) pa_nil))))) pss_nil)
      (pss_cons (ps_set (i := 5) sc__law_spoilt.nd rfl (Or.inl rfl) (pe_callA G__law_draw (Room.mono hr (by decide)) T.n__law_draw tk (pa_cons (pv 0) (pa_cons (pe_op o_add (pe_callB (b_len) rfl T.b_len (by decide +kernel) (pa_cons (pv 1) pa_nil)) pe_int) pa_nil))))
      (pss_cons (ps_if (pt_cmpA (o_eq hu) (pv 2) pe_int (nomark _)) (pss_one (ps_ret (pe_op o_add (pe_op o_add (pe_slice sl_any (pv 1) po_none (po_some (pv 5))) (pe_callA G__law_sign (Room.mono hr (by decide)) T.n__law_sign tk (pa_cons (pv 0) pa_nil))) (pe_slice sl_any (pv 1) (po_some (pv 5)) po_none)))) pss_nil)
      (pss_one (ps_ret (pe_op o_add (pe_slice sl_any (pv 1) po_none (po_some (pv 5))) (pe_slice sl_any (pv 1) (po_some (pe_op o_add (pv 5) pe_int)) po_none))))))))))), ?_⟩
  show (_ : Ends → L2.St → Hp → Prop) _ [some _, some _, none, none, none, none] _
  try dsimp only [L2H.cxH, cxOf]
  have hsum := words_sum z
  have hpl := split_part_len (z := z) (y := " ") (by rw [tl_sp]; simp) k_sp
  have hne := split_ne (z := z) (y := " ") (by rw [tl_sp]; simp) k_sp
  walk_at "w"
  refine ⟨b, q, 4, rfl, hB, by omega, by omega, fun r1 H1 r0 r1' B1 k1 => ?_⟩
  walk_at "w"
  intro p hp
  have kp := Kp.refl.new (ms := [b]) (o := .lst ((wordsOf z).map V.str)) hp
  have hp2 : upd H1 p (.lst ((wordsOf z).map V.str)) p = some (.lst ((wordsOf z).map V.str)) := upd_same
  have B2 : Box (upd H1 p (.lst ((wordsOf z).map V.str))) b q := B1.new hp
  have pb : p ∉ [b] := fun z => B1.b hp (List.mem_singleton.mp z)
  have pq := B1.q hp
  have hpl : ∀ w ∈ wordsOf z, w.length ≤ z.length := hpl
  have hne : wordsOf z ≠ [] := hne
  have hwl : 0 < (wordsOf z).length := List.length_pos_iff.mpr hne
  have he : Txt.split z " " = wordsOf z := rfl
  rw [he]
  have hbd : z.length + 1 ≤ 100001 := by omega
  generalize upd H1 p (.lst ((wordsOf z).map V.str)) = H2 at kp hp2 B2 ⊢
  generalize wordsOf z = ws at hsum hpl hne hwl hp2
  have k02 := k1.trans kp
  have hpz : H p = none := kp_free B1 k1 hp
  clear k1 kp hp
  walk_at "w"
  refine ⟨b, q, _, rfl, B2, by omega, by omega, fun pl H3 pl0 pl1 B3 k3 => ?_⟩
  have hp3 := k3 p _ hp2 pb
  have k03 := k02.trans k3
  have hel : (ws.getD pl.toNat default).length ≤ z.length := hpl _ (by
    rw [List.getD_eq_getElem?_getD, List.getElem?_eq_getElem (show pl.toNat < ws.length by omega)]
    exact List.getElem_mem _)
  clear hp2 B2 k02 k3
  walk_at "w"
  refine w_ite (fun c => ?_) (fun c => ?_)
  · walk_at "w"
    refine ⟨b, q, _, rfl, B3, by omega, fun v H4 hv B4 k4 => ?_⟩
    have hp4 := k4 p _ hp3 pb
    have hs := sumL_set ws pl.toNat v
    have hj := join_sum (ws.set pl.toNat v)
    have hl : (ws.set pl.toNat v).length = ws.length := List.length_set ..
    have hpn : H4 p = some (.lst (ws.map V.str)) := hp4
    have hp0 : p ≠ b := fun e => pb (List.mem_singleton.mpr e)
    walk_at "w"
    refine w_join upd_same ?_ ?_
    · show sumL _ + _ * 1 ≤ _
      omega
    · exact k _ _ (by omega) (B4.mut hp0 pq) ((k03.trans k4).own hpz)
  walk_at "w"
  refine w_ite (fun c => ?_) (fun c => ?_)
  · walk_at "w"
    refine ⟨b, q, _, rfl, B3, by omega, fun v H4 hv B4 k4 => ?_⟩
    have hp4 := k4 p _ hp3 pb
    have hs := sumL_ins ws pl.toNat v
    have hj := join_sum (insAt ws pl.toNat v)
    have hp0 : p ≠ b := fun e => pb (List.mem_singleton.mpr e)
    walk_at "w"
    refine w_join upd_same ?_ ?_
    · show sumL _ + _ * 1 ≤ _
      omega
    · exact k _ _ (by omega) (B4.mut hp0 pq) ((k03.trans k4).own hpz)
  walk_at "w"
  refine ⟨b, q, _, rfl, B3, by omega, by omega, fun sp H4 sp0 sp1 B4 k4 => ?_⟩
  have c1 := cutS_len z none (some sp)
  have c2 := cutS_len z (some sp) none
  have c3 := cutS_len z (some (sp + 1)) none
  have k04 := k03.trans k4
  walk_at "w"
  refine w_ite (fun c => ?_) (fun c => ?_)
  · walk_at "w"
    refine ⟨b, q, rfl, B4, fun v H5 hv B5 k5 => ?_⟩
    have hap := app_len (cutS z none (some sp)) v
    walk_at "w"
    exact k _ H5 (by rw [app_len, app_len]; omega) B5 (k04.trans k5)
  · walk_at "w"
    exact k _ H4 (by rw [app_len]; omega) B4 k04
/-! ### the law's own reading -/
def numW (z : Str) : Int := if nodeW z = true then numV z else 0
theorem tl_digs : TL.tl "0123456789" = [48, 49, 50, 51, 52, 53, 54, 55, 56, 57] := by decide +kernel
theorem in_digs {c : Nat} : c ∈ TL.tl "0123456789" ↔ 48 ≤ c ∧ c ≤ 57 := by
  rw [tl_digs]
  simp; omega
def sp__law_number (a : AD) : Sp := fun vs H Q _ => ∃ z : Str, vs = [.str z] ∧ z.length ≤ 100000 ∧ Q (.int (numW z)) H
theorem sc__law_number : FnScope ["_law_digits", "_law_sign_here"] ["_law_digits"] (defScope s__law_number) := ⟨rfl, rfl, rfl, by decide +kernel, rfl, by decide +kernel, by decide +kernel⟩
theorem ok__law_number {P : Program} {w : World} {K : PySem.W.Frag} {mg : Str → Option Value} {base : Heap} {a : AD} (T : Txt P K mg a) : FnA P w K mg base 2 a.f__law_number ["_law_digits"] (sp__law_number a) := by
  obtain ⟨fd, F, b⟩ := T.F__law_number
  refine FnA.of F sc__law_number b (fun vs H Q E h => by first | (obtain ⟨rfl, _⟩ := h; rfl) | (obtain ⟨_, rfl, _⟩ := h; rfl) | (obtain ⟨_, _, rfl, _⟩ := h; rfl) | (obtain ⟨_, _, _, rfl, _⟩ := h; rfl) | (obtain ⟨_, _, _, _, rfl, _⟩ := h; rfl) | (obtain ⟨_, _, _, _, _, rfl, _⟩ := h; rfl) | (obtain ⟨_, _, _, _, _, _, rfl, _⟩ := h; rfl) | (obtain ⟨_, _, _, _, _, _, _, rfl, _⟩ := h; rfl) | (obtain ⟨_, _, _, _, _, _, _, _, rfl, _⟩ := h; rfl) | (obtain ⟨_, _, _, _, _, _, _, _, _, rfl, _⟩ := h; rfl) | (obtain ⟨_, _, _, _, _, _, _, _, _, _, rfl, _⟩ := h; rfl) | (obtain ⟨_, _, _, _, _, _, _, _, _, _, _, rfl, _⟩ := h; rfl) | (obtain ⟨_, _, _, _, _, _, _, _, _, _, _, _, rfl, _⟩ := h; rfl) | (obtain ⟨_, _, _, _, _, _, _, _, _, _, _, _, _, rfl, _⟩ := h; rfl) | (obtain ⟨_, _, _, _, _, _, _, _, _, _, _, _, _, _, rfl, _⟩ := h; rfl) | (obtain ⟨_, _, _, _, _, _, _, _, _, _, _, _, _, _, _, rfl, _⟩ := h; rfl) | (obtain ⟨_, _, _, _, _, _, _, _, _, _, _, _, _, _, _, _, rfl, _⟩ := h; rfl) | (obtain ⟨_, _, _, _, _, _, _, _, _, _, _, _, _, _, _, _, _, rfl, _⟩ := h; rfl) | (obtain ⟨_, _, _, _, _, _, _, _, _, _, _, _, _, _, _, _, _, _, rfl, _⟩ := h; rfl) | (obtain ⟨_, _, _, _, _, _, _, _, _, _, _, _, _, _, _, _, _, _, _, rfl, _⟩ := h; rfl) | (obtain ⟨_, _, _, _, _, _, _, _, _, _, _, _, _, _, _, _, _, _, _, _, rfl, _⟩ := h; rfl) | (obtain ⟨_, _, _, _, _, _, _, _, _, _, _, _, _, _, _, _, _, _, _, _, _, rfl, _⟩ := h; rfl) | (obtain ⟨_, _, _, _, _, _, _, _, _, _, _, _, _, _, _, _, _, _, _, _, _, _, rfl, _⟩ := h; rfl) | (obtain ⟨_, _, _, _, _, _, _, _, _, _, _, _, _, _, _, _, _, _, _, _, _, _, _, rfl, _⟩ := h; rfl)) (fun cdv A outer s H vs Q E hr tk pz h => ?_)
  have hu := hr.units
  have hrH := L2H.roomH_of hr
  obtain ⟨z, rfl, hz, k⟩ := h
  refine ⟨_, (pss_cons (ps_if (PW.pt (pw_or (pt_cmpA (o_eq hu) (pv 0) pe_str (nomark _)) (pw_or (pt_cmpA op_gt (pe_callB (b_len) rfl T.b_len (by decide +kernel) (pa_cons (pv 0) pa_nil)) pe_int (nomark _)) (pw_or1 (pt_cmpA (o_eq hu) (pe_ix ix_seq (pv 0) pe_int (fun _ _ => rfl)) pe_str (nomark _)))))) (pss_one (ps_ret pe_int)) pss_nil)
      (pss_cons (ps_for pz rfl (pi_str (pv 0)) (pg_name (i := 1) sc__law_number.nd rfl (Or.inl rfl))
      (pss_one (ps_if (pt_cmpA op_notInS (pv 1) pe_str (by rfl)) (pss_one (ps_ret pe_int)) pss_nil)))
      (pss_one (ps_ret (pe_callTy b_intA rfl T.b_int (by decide +kernel) (pa_cons (pv 0) pa_nil)))))), ?_⟩
  show (_ : Ends → L2.St → Hp → Prop) _ [some _, none] _
  try dsimp only [L2H.cxH, cxOf]
  have bad : ¬okD z → numW z = 0 := fun h => by
    unfold numW
    rw [if_neg (fun y => h (okD_node.mpr y))]
  walk_at "w"
  refine w_ite (fun c1 => ?_) (fun c1 => ?_)
  · rw [bad (fun y => y.1 c1)] at k
    walk_at "w"
    exact k
  walk_at "w"
  refine w_ite (fun c2 => ?_) (fun c2 => ?_)
  · rw [bad (fun y => by have := y.2.1; omega)] at k
    walk_at "w"
    exact k
  have hne := strD_len c1
  have hc : z.cps.toList[(0 : Int).toNat]? = some (z.cps.toList.getD 0 default) := by
    have : TL.tl z ≠ [] := hne
    cases e : z.cps.toList with
    | nil => exact absurd e this
    | cons c r => rfl
  walk_at "w"
  refine w_ixS (by rw [sizeLine_eq]; omega) (by omega) hc ?_
  walk_at "w"
  refine w_ite (fun c3 => ?_) (fun c3 => ?_)
  · rw [bad (fun y => y.2.2.1 c3)] at k
    walk_at "w"
    exact k
  walk_at "w"
  refine w_forS (fun i σ' H' => H' = H ∧ (∃ x, σ' = [some (.str z), x]) ∧ ∀ (j c : Nat), j < i → (TL.tl z)[j]? = some c → 48 ≤ c ∧ c ≤ 57) ⟨rfl, ⟨_, rfl⟩, fun j c hj => by omega⟩ ?_ ?_
  · rintro i c σ' H' hu ⟨rfl, ⟨x, rfl⟩, hj⟩
    walk_at "w"
    refine w_iteN (fun c4 => ?_) (fun c4 => ?_)
    · rw [bad (fun y => c4 (in_digs.mpr (y.2.2.2 c (List.mem_of_getElem? hu))))] at k
      walk_at "w"
      exact k
    · walk_at "w"
      refine ⟨rfl, ⟨_, rfl⟩, fun j d hj' hd => ?_⟩
      by_cases q : j < i
      · exact hj j d q hd
      · obtain rfl : j = i := by omega
        rw [hu] at hd
        cases hd
        exact in_digs.mp c4
  · rintro σ' H' ⟨rfl, ⟨x, rfl⟩, hj⟩
    have hok : nodeW z = true := okD_node.mp ⟨c1, by omega, c3, fun c hc => by
      obtain ⟨j, hjl, e⟩ := List.getElem_of_mem hc
      exact hj j c (by rw [TL.len_tl]; exact hjl) (by rw [List.getElem?_eq_getElem hjl, e])⟩
    obtain ⟨t1, t2, t3⟩ := node_text hok
    unfold numW at k
    rw [if_pos hok] at k
    walk_at "w"
    exact w_intS t1 (by omega) k
def DueAt (H : Hp) (T : Addr) (z : Str) : Prop := (∃ (us : List Int) (r : Addr), LogIs z us ∧ H T = some (.tup [.bl true, .ref r]) ∧ H r = some (.lst (us.map V.int)) ∧ us.length ≤ 100001) ∨ ∃ i : Nat, BadAt z i ∧ H T = some (.tup [.bl false, .int (i : Int)])
theorem DueAt.kp0 {H H' : Hp} {T : Addr} {z : Str} (h : DueAt H T z) (k : Kp [] H H') : DueAt H' T z := by
  rcases h with ⟨us, r, h1, h2, h3, h4⟩ | ⟨i, h1, h2⟩
  · exact .inl ⟨us, r, h1, k.at0 h2, k.at0 h3, h4⟩
  · exact .inr ⟨i, h1, k.at0 h2⟩
def sp__law_read (a : AD) : Sp := fun vs H Q _ => ∃ z : Str, vs = [.str z] ∧ z.length ≤ 100000 ∧ ∀ T H', Kp [] H H' → DueAt H' T z → Q (.ref T) H'
theorem sc__law_read : FnScope ["_law_text", "_law_log_here", "_law_words", "_law_k", "_law_node_here"] ["_law_text"] (defScope s__law_read) := ⟨rfl, rfl, rfl, by decide +kernel, rfl, by decide +kernel, by decide +kernel⟩
theorem ok__law_read {P : Program} {w : World} {K : PySem.W.Frag} {mg : Str → Option Value} {base : Heap} {a : AD} (T : Txt P K mg a) (G__law_number : FnA P w K mg base 2 a.f__law_number ["_law_digits"] (sp__law_number a)) : FnA P w K mg base 3 a.f__law_read ["_law_text"] (sp__law_read a) := by
  obtain ⟨fd, F, b⟩ := T.F__law_read
  refine FnA.of F sc__law_read b (fun vs H Q E h => by first | (obtain ⟨rfl, _⟩ := h; rfl) | (obtain ⟨_, rfl, _⟩ := h; rfl) | (obtain ⟨_, _, rfl, _⟩ := h; rfl) | (obtain ⟨_, _, _, rfl, _⟩ := h; rfl) | (obtain ⟨_, _, _, _, rfl, _⟩ := h; rfl) | (obtain ⟨_, _, _, _, _, rfl, _⟩ := h; rfl) | (obtain ⟨_, _, _, _, _, _, rfl, _⟩ := h; rfl) | (obtain ⟨_, _, _, _, _, _, _, rfl, _⟩ := h; rfl) | (obtain ⟨_, _, _, _, _, _, _, _, rfl, _⟩ := h; rfl) | (obtain ⟨_, _, _, _, _, _, _, _, _, rfl, _⟩ := h; rfl) | (obtain ⟨_, _, _, _, _, _, _, _, _, _, rfl, _⟩ := h; rfl) | (obtain ⟨_, _, _, _, _, _, _, _, _, _, _, rfl, _⟩ := h; rfl) | (obtain ⟨_, _, _, _, _, _, _, _, _, _, _, _, rfl, _⟩ := h; rfl) | (obtain ⟨_, _, _, _, _, _, _, _, _, _, _, _, _, rfl, _⟩ := h; rfl) | (obtain ⟨_, _, _, _, _, _, _, _, _, _, _, _, _, _, rfl, _⟩ := h; rfl) | (obtain ⟨_, _, _, _, _, _, _, _, _, _, _, _, _, _, _, rfl, _⟩ := h; rfl) | (obtain ⟨_, _, _, _, _, _, _, _, _, _, _, _, _, _, _, _, rfl, _⟩ := h; rfl) | (obtain ⟨_, _, _, _, _, _, _, _, _, _, _, _, _, _, _, _, _, rfl, _⟩ := h; rfl) | (obtain ⟨_, _, _, _, _, _, _, _, _, _, _, _, _, _, _, _, _, _, rfl, _⟩ := h; rfl) | (obtain ⟨_, _, _, _, _, _, _, _, _, _, _, _, _, _, _, _, _, _, _, rfl, _⟩ := h; rfl) | (obtain ⟨_, _, _, _, _, _, _, _, _, _, _, _, _, _, _, _, _, _, _, _, rfl, _⟩ := h; rfl) | (obtain ⟨_, _, _, _, _, _, _, _, _, _, _, _, _, _, _, _, _, _, _, _, _, rfl, _⟩ := h; rfl) | (obtain ⟨_, _, _, _, _, _, _, _, _, _, _, _, _, _, _, _, _, _, _, _, _, _, rfl, _⟩ := h; rfl) | (obtain ⟨_, _, _, _, _, _, _, _, _, _, _, _, _, _, _, _, _, _, _, _, _, _, _, rfl, _⟩ := h; rfl)) (fun cdv A outer s H vs Q E hr tk pz h => ?_)
  have hu := hr.units
  have hrH := L2H.roomH_of hr
  obtain ⟨z, rfl, hz, k⟩ := h
  refine ⟨_, (pss_cons (ps_set (i := 1) sc__law_read.nd rfl (Or.inl rfl) (pe_lst pa_nil))
      (pss_cons (ps_if (pt_cmpA (o_eq hu) (pv 0) pe_str (nomark _)) (pss_one (ps_ret (pe_tup (pa_cons pe_bl (pa_cons (pv 1) pa_nil))))) pss_nil)
      (pss_cons (ps_set (i := 2) sc__law_read.nd rfl (Or.inl rfl) (pe_bm PySem.F.plainAttrs_str PySem.F.slot_str_split PySem.F.type_str_split m_split (pv 0) (pa_cons pe_str pa_nil)))
      (pss_cons (ps_for pz rfl (pi_range1 rfl T.b_range (pa_cons (pe_callB (b_len) rfl T.b_len (by decide +kernel) (pa_cons (pv 2) pa_nil)) pa_nil)) (pg_name (i := 3) sc__law_read.nd rfl (Or.inl rfl))
      (pss_cons (ps_set (i := 4) sc__law_read.nd rfl (Or.inl rfl) (pe_callA G__law_number (Room.mono hr (by decide)) T.n__law_number tk (pa_cons (pe_slice sl_any (pe_ix ix_seq (pv 2) (pv 3) (fun _ _ => rfl)) (po_some pe_int) po_none) pa_nil)))
      (pss_cons (ps_if (pt_cutT (PW.pt (pw_or (pt_cmpA (o_eq hu) (pv 4) pe_int (nomark _)) (pw_or1 (pt_cmpA op_notIn_seq (pe_slice sl_any (pe_ix ix_seq (pv 2) (pv 3) (fun _ _ => rfl)) po_none (po_some pe_int)) (pe_lst (pa_cons pe_str (pa_cons pe_str pa_nil))) (by rfl)))))) (pss_one (ps_ret (pe_tup (pa_cons pe_bl (pa_cons (pv 3) pa_nil))))) pss_nil)
      (pss_cons (ps_if (pt_cmpA (o_eq hu) (pe_ix ix_seq (pe_ix ix_seq (pv 2) (pv 3) (fun _ _ => rfl)) pe_int (fun _ _ => rfl)) pe_str (nomark _)) (pss_one (ps_set (i := 4) sc__law_read.nd rfl (Or.inl rfl) (pe_un un_neg (pv 4)))) pss_nil)
      (pss_one (ps_expr (pe_bm PySem.F.plainAttrs_list PySem.F.slot_list_append PySem.F.type_list_append mt_append (pv 1) (pa_cons (pv 4) pa_nil))))))))
      (pss_one (ps_ret (pe_tup (pa_cons pe_bl (pa_cons (pv 1) pa_nil))))))))), ?_⟩
  show (_ : Ends → L2.St → Hp → Prop) _ [some _, none, none, none, none] _
  try dsimp only [L2H.cxH, cxOf]
  have hsum := words_sum z
  have hpl : ∀ w ∈ wordsOf z, w.length ≤ z.length := split_part_len (z := z) (y := " ") (by rw [tl_sp]; simp) k_sp
  walk_at "w"
  intro r hr
  have kr := Kp.refl.new (ms := []) (o := .lst []) hr
  have hr1 : upd H r (.lst []) r = some (.lst (([] : List Int).map V.int)) := upd_same
  generalize upd H r (.lst []) = H1 at kr hr1 ⊢
  walk_at "w"
  refine w_ite (fun c => ?_) (fun c => ?_)
  · walk_at "w"
    intro T hT
    exact k T _ (kr.new hT) (.inl ⟨[], r, .inl ⟨c, rfl⟩, upd_same, upd_new hT hr1, by simp⟩)
  walk_at "w"
  intro p hp
  have he : Txt.split z " " = wordsOf z := rfl
  rw [he]
  have kp := Kp.refl.new (ms := []) (o := .lst ((wordsOf z).map V.str)) hp
  have hp2 : upd H1 p (.lst ((wordsOf z).map V.str)) p = some (.lst ((wordsOf z).map V.str)) := upd_same
  have hr2 := kp.at0 hr1
  have k2 := kr.trans0 kp
  have pr : p ≠ r := Ne.symm (ne_of_none hr1 hp)
  generalize upd H1 p (.lst ((wordsOf z).map V.str)) = H2 at hp2 hr2 k2 ⊢
  clear kp hp kr hr1
  walk_at "w"
  refine w_rng1 (n := ((wordsOf z).length : Int)) (by omega) (by omega) (fun i σ' H' => ∃ (z1 z2 : Option V) (us : List Int), σ' = [some (.str z), some (.ref r), some (.ref p), z1, z2] ∧ Kp [] H H' ∧ H' p = some (.lst ((wordsOf z).map V.str)) ∧ H' r = some (.lst (us.map V.int)) ∧ us = ((wordsOf z).take i).map opV ∧ ∀ (j : Nat) (w' : Str), j < i → (wordsOf z)[j]? = some w' → opW w' = true) ⟨_, _, [], rfl, k2, hp2, hr2, rfl, fun j w' hj => by omega⟩ ?_ ?_
  · clear k2 hp2 hr2
    rintro i σ' H2 hi ⟨z1, z2, us, rfl, k2, hp2, hr2, hus, hok⟩
    have hil : i < (wordsOf z).length := by omega
    have hu : (wordsOf z)[i]? = some ((wordsOf z).getD i default) := by simp [List.getD, List.getElem?_eq_getElem hil]
    have hge : (wordsOf z).getD (Int.toNat (i : Int)) default = (wordsOf z).getD i default := by rw [Int.toNat_natCast]
    have hwl := hpl _ (List.mem_of_getElem? hu)
    have hul : us.length ≤ 100001 := by
      rw [hus, List.length_map, List.length_take]; omega
    walk_at "w"
    rw [hge]
    generalize (wordsOf z).getD i default = w at hu hge hwl ⊢
    have hwl2 : w.length ≤ 100000 := Nat.le_trans hwl hz
    have hdl : (cutS w (some 1) none).length ≤ 100000 := Nat.le_trans (cutS_len _ _ _) hwl2
    have hmem : (cutS w none (some 1) ∈ (["+", "-"] : List Str)) ↔ (decide (cutS w none (some 1) = ("-" : Str)) || decide (cutS w none (some 1) = ("+" : Str))) = true := by simp [or_comm]
    have hnw : numW (cutS w (some 1) none) = 0 ↔ nodeW (cutS w (some 1) none) = false := by
      unfold numW
      by_cases q : nodeW (cutS w (some 1) none) = true
      · have := (node_text q).2.1
        rw [if_pos q, q]
        constructor
        · intro y; omega
        · intro y; cases y
      · rw [if_neg q]
        exact ⟨fun _ => by simpa using q, fun _ => rfl⟩
    walk_at "w"
    refine ⟨_, rfl, by omega, ?_⟩
    walk_at "w"
    refine s_cutTK (¬opW w = true) (fun H4 => Kp [] H2 H4) ?_ ?_
    · walk_at "w"
      refine w_ite (fun c1 => ?_) (fun c1 => ?_)
      · walk_at "w"
        refine ⟨Kp.refl, (decide_eq_true ?_).symm⟩
        intro y
        unfold opW at y
        rw [Bool.and_eq_true, hnw.mp c1] at y
        cases y.2
      · have hno : nodeW (cutS w (some 1) none) = true := by
          cases q : nodeW (cutS w (some 1) none) with
          | true => rfl
          | false => exact absurd (hnw.mpr q) c1
        walk_at "w"
        rw [hge]
        walk_at "w"
        intro t ht
        have kt := Kp.refl.new (ms := []) (o := .lst ((["+", "-"] : List Str).map V.str)) ht
        have ht5 := upd_same (H := H2) (a := t) (o := .lst ((["+", "-"] : List Str).map V.str))
        have e2 : (HO.lst [.str "+", .str "-"]) = .lst ((["+", "-"] : List Str).map V.str) := rfl
        rw [e2]
        generalize upd H2 t (.lst ((["+", "-"] : List Str).map V.str)) = H5 at kt ht5 ⊢
        walk_at "w"
        refine ⟨kt, ?_⟩
        have e : opW w = decide (cutS w none (some 1) ∈ (["+", "-"] : List Str)) := by
          unfold opW
          rw [hno, Bool.and_true, Bool.eq_iff_iff, decide_eq_true_iff]
          exact hmem.symm
        rw [e]
        by_cases q : cutS w none (some 1) ∈ (["+", "-"] : List Str)
        · rw [decide_eq_true q]; rfl
        · rw [decide_eq_false q]; rfl
    · intro H4 k4
      have hp4 := k4.at0 hp2
      have hr4 := k4.at0 hr2
      have k04 := k2.trans0 k4
      clear hp2 hr2 k2 k4
      refine w_ite (fun c1 => ?_) (fun c1 => ?_)
      · walk_at "w"
        intro T hT
        exact k T _ (k04.new hT) (.inr ⟨i, ⟨c, w, hu, by simpa using c1, hok⟩, upd_same⟩)
      · have c1 : opW w = true := by simpa using c1
        have hok' : ∀ (j : Nat) (w' : Str), j < i + 1 → (wordsOf z)[j]? = some w' → opW w' = true := fun j w' hj hw => by
          by_cases q : j < i
          · exact hok j w' q hw
          · obtain rfl : j = i := by omega
            rw [hu] at hw
            cases hw
            exact c1
        have hus' : us ++ [opV w] = ((wordsOf z).take (i + 1)).map opV := by
          rw [takeS hu, List.map_append, ← hus]; rfl
        have hno : nodeW (cutS w (some 1) none) = true := by
          unfold opW at c1
          rw [Bool.and_eq_true] at c1
          exact c1.2
        have hnv : numW (cutS w (some 1) none) = numV (cutS w (some 1) none) := by
          unfold numW
          rw [if_pos hno]
        have hne : TL.tl w ≠ [] := fun e => by
          rw [(cut_nil e).2] at hno
          exact absurd hno (by decide +kernel)
        obtain ⟨s0, hs0⟩ : ∃ s0, (TL.tl w)[0]? = some s0 := by
          cases e : TL.tl w with
          | nil => exact absurd e hne
          | cons c0 _ => exact ⟨c0, rfl⟩
        have hcut : cutS w none (some 1) = ⟨#[s0]⟩ := by
          cases e : TL.tl w with
          | nil => exact absurd e hne
          | cons c0 l =>
            rw [e] at hs0
            cases hs0
            exact (cut_cons e).1
        have hov : opV w = if (⟨#[s0]⟩ : Str) = "-" then -numV (cutS w (some 1) none) else numV (cutS w (some 1) none) := by
          unfold opV
          rw [hcut]
        have fin : ∀ v : Int, v = opV w → ∃ (z1' z2' : Option V) (us' : List Int), [some (V.str z), some (.ref r), some (.ref p), some (.int (i : Int)), some (.int v)] = [some (V.str z), some (.ref r), some (.ref p), z1', z2'] ∧ Kp [] H (upd H4 r (.lst ((us ++ [v]).map V.int))) ∧ upd H4 r (.lst ((us ++ [v]).map V.int)) p = some (.lst ((wordsOf z).map V.str)) ∧ upd H4 r (.lst ((us ++ [v]).map V.int)) r = some (.lst (us'.map V.int)) ∧ us' = ((wordsOf z).take (i + 1)).map opV ∧ ∀ (j : Nat) (w' : Str), j < i + 1 → (wordsOf z)[j]? = some w' → opW w' = true := fun v hv =>
          ⟨_, _, _, rfl, k04.own hr, upd_get pr hp4, upd_same, by rw [hv]; exact hus', hok'⟩
        walk_at "w"
        rw [hge]
        refine w_ixS (by rw [sizeLine_eq]; omega) (by omega) hs0 ?_
        walk_at "w"
        refine w_ite (fun c2 => ?_) (fun c2 => ?_)
        · walk_at "w"
          exact fin _ (by rw [hov, if_pos c2, hnv])
        · walk_at "w"
          exact fin _ (by rw [hov, if_neg c2, hnv])
  · rintro σ' H' ⟨z1, z2, us, rfl, hk, hp3, hr3, hus, hok⟩
    walk_at "w"
    intro T hT
    refine k T _ (hk.new hT) (.inl ⟨us, r, .inr ⟨c, fun w hw => ?_, by rw [hus, Int.toNat_natCast, List.take_length]⟩, upd_same, upd_new hT hr3, ?_⟩)
    · obtain ⟨j, hj, e⟩ := List.getElem_of_mem hw
      exact hok j w (by omega) (by rw [List.getElem?_eq_getElem hj, e])
    · rw [hus, List.length_map, List.length_take]; omega
theorem cut_front {α : Type} {xs : List α} {i : Int} (i0 : 0 ≤ i) (i1 : i ≤ xs.length) : cut xs none (some i) = xs.take i.toNat := by
  unfold cut HT.sIx
  dsimp only
  rw [if_neg (by omega), List.drop_zero, Nat.sub_zero, Nat.min_eq_left (by omega)]
theorem cut_back {α : Type} {xs : List α} {i : Int} (i0 : 0 ≤ i) (i1 : i ≤ xs.length) : cut xs (some i) none = xs.drop i.toNat := by
  unfold cut HT.sIx
  dsimp only
  rw [if_neg (by omega), Nat.min_eq_left (by omega), List.take_of_length_le (by rw [List.length_drop]; omega)]
/-! ### right and refused -/
theorem log_one {z : Str} {us vs : List Int} (h1 : LogIs z us) (h2 : LogIs z vs) : us = vs := by
  rcases h1 with ⟨a1, rfl⟩ | ⟨a1, _, rfl⟩ <;> rcases h2 with ⟨b1, rfl⟩ | ⟨b1, _, rfl⟩
  · rfl
  · exact absurd a1 b1
  · exact absurd b1 a1
  · rfl
theorem log_bad {z : Str} {us : List Int} {i : Nat} (h1 : LogIs z us) (h2 : BadAt z i) : False := by
  obtain ⟨hn, w, hw, ho, _⟩ := h2
  rcases h1 with ⟨a1, _⟩ | ⟨_, a2, _⟩
  · exact hn a1
  · rw [a2 w (List.mem_of_getElem? hw)] at ho; cases ho
theorem bad_one {z : Str} {i j : Nat} (h1 : BadAt z i) (h2 : BadAt z j) : i = j := by
  obtain ⟨_, w, hw, ho, hb⟩ := h1
  obtain ⟨_, v, hv, hp, hc⟩ := h2
  rcases Nat.lt_trichotomy i j with q | q | q
  · rw [hc i w q hw] at ho; cases ho
  · exact q
  · rw [hb j v q hv] at hp; cases hp
def sp__law_parse_right (a : AD) : Sp := fun vs H Q _ => ∃ (z : Str) (T : Addr), vs = [.str z, .ref T] ∧ z.length ≤ 100000 ∧ DueAt H T z ∧ ∀ H', Kp [] H H' → Q (.bl true) H'
theorem sc__law_parse_right : FnScope ["_law_text", "_law_due", "_law_told", "raised"] ["_law_text", "_law_due"] (defScope s__law_parse_right) := ⟨rfl, rfl, rfl, by decide +kernel, rfl, by decide +kernel, by decide +kernel⟩
theorem ok__law_parse_right {P : Program} {w : World} {K : PySem.W.Frag} {mg : Str → Option Value} {base : Heap} {a : AD} (T : Txt P K mg a) (G_parse_log : FnA P w K mg base 3 a.f_parse_log ["text"] (sp_parse_log a)) (G__law_integers : FnA P w K mg base 3 a.f__law_integers ["_law_told", "_law_due"] (sp__law_integers a)) (H__law_is : FnHA P w K mg base 2 a.f__law_is ["_law_told", "_law_due"] (sp__law_is a)) : FnA P w K mg base 4 a.f__law_parse_right ["_law_text", "_law_due"] (sp__law_parse_right a) := by
  obtain ⟨fd, F, b⟩ := T.F__law_parse_right
  refine FnA.of F sc__law_parse_right b (fun vs H Q E h => by first | (obtain ⟨rfl, _⟩ := h; rfl) | (obtain ⟨_, rfl, _⟩ := h; rfl) | (obtain ⟨_, _, rfl, _⟩ := h; rfl) | (obtain ⟨_, _, _, rfl, _⟩ := h; rfl) | (obtain ⟨_, _, _, _, rfl, _⟩ := h; rfl) | (obtain ⟨_, _, _, _, _, rfl, _⟩ := h; rfl) | (obtain ⟨_, _, _, _, _, _, rfl, _⟩ := h; rfl) | (obtain ⟨_, _, _, _, _, _, _, rfl, _⟩ := h; rfl) | (obtain ⟨_, _, _, _, _, _, _, _, rfl, _⟩ := h; rfl) | (obtain ⟨_, _, _, _, _, _, _, _, _, rfl, _⟩ := h; rfl) | (obtain ⟨_, _, _, _, _, _, _, _, _, _, rfl, _⟩ := h; rfl) | (obtain ⟨_, _, _, _, _, _, _, _, _, _, _, rfl, _⟩ := h; rfl) | (obtain ⟨_, _, _, _, _, _, _, _, _, _, _, _, rfl, _⟩ := h; rfl) | (obtain ⟨_, _, _, _, _, _, _, _, _, _, _, _, _, rfl, _⟩ := h; rfl) | (obtain ⟨_, _, _, _, _, _, _, _, _, _, _, _, _, _, rfl, _⟩ := h; rfl) | (obtain ⟨_, _, _, _, _, _, _, _, _, _, _, _, _, _, _, rfl, _⟩ := h; rfl) | (obtain ⟨_, _, _, _, _, _, _, _, _, _, _, _, _, _, _, _, rfl, _⟩ := h; rfl) | (obtain ⟨_, _, _, _, _, _, _, _, _, _, _, _, _, _, _, _, _, rfl, _⟩ := h; rfl) | (obtain ⟨_, _, _, _, _, _, _, _, _, _, _, _, _, _, _, _, _, _, rfl, _⟩ := h; rfl) | (obtain ⟨_, _, _, _, _, _, _, _, _, _, _, _, _, _, _, _, _, _, _, rfl, _⟩ := h; rfl) | (obtain ⟨_, _, _, _, _, _, _, _, _, _, _, _, _, _, _, _, _, _, _, _, rfl, _⟩ := h; rfl) | (obtain ⟨_, _, _, _, _, _, _, _, _, _, _, _, _, _, _, _, _, _, _, _, _, rfl, _⟩ := h; rfl) | (obtain ⟨_, _, _, _, _, _, _, _, _, _, _, _, _, _, _, _, _, _, _, _, _, _, rfl, _⟩ := h; rfl) | (obtain ⟨_, _, _, _, _, _, _, _, _, _, _, _, _, _, _, _, _, _, _, _, _, _, _, rfl, _⟩ := h; rfl)) (fun cdv A outer s H vs Q E hr tk pz h => ?_)
  have hu := hr.units
  have hrH := L2H.roomH_of hr
  obtain ⟨z, T', rfl, hz, hD, k⟩ := h
  refine ⟨_, (pss_cons (L2N.ps_try_as (i := 3) (tb := fun W => (tAsg (tCallS (sp_parse_log a) (WE W) (tCons (tVar 0) tNil)) (gName 2))) (ts := fun ea cls d => (tSeq (tIfS (tOr (cTru K (tOp (rIx K) (tVar 1) (tC (.int 0)))) (tOr (cTru K (tCB (rIsG K ea cls d) (tCons (tVar 3) (tCons (tC (.ref a.LogError)) tNil)))) (tOr (cTru K (tCB (rIsG K ea cls d) (tCons (tVar 3) (tCons (tC (.ref a.BadDump)) tNil)))) (tNot (cTru K (tCB (rIsG K ea cls d) (tCons (tVar 3) (tCons (tC (.ref a.LinkError)) tNil)))))))) (tRet (tC (.bl false))) tNext) (tRet (tAndV (tCB (rIsG K ea cls d) (tCons (tVar 3) (tCons (tC (.ty "ValueError")) tNil))) (tCallS (sp__law_is a) (fun _ => E0) (tCons (tXfG K ea cls d "place" (tVar 3)) (tCons (tOp (rIx K) (tVar 1) (tC (.int 1))) tNil))))))) rfl rfl sc__law_parse_right.nd rfl rfl ⟨rfl, by decide, Or.inl T.c_BadText⟩ tk
      (fun W pn xe tk2 pz => (pss_one (ps_set (i := 2) sc__law_parse_right.nd rfl (Or.inl rfl) (pe_callA G_parse_log (Room.mono hr (by decide)) T.n_parse_log tk2 (pa_cons (pv 0) pa_nil)))))
      (fun ea oe cls d pn hz hf => (pss_cons (ps_if (PW.pt (pw_or (pt_tru (pe_ix ix_seq (pv 1) pe_int (fun _ _ => rfl))) (pw_or (pt_tru (pe_callB (by exact call_isG (L2N.Zn.zc hz) hf) rfl T.b_isinstance (by decide +kernel) (pa_cons (pv 3) (pa_cons (pe_glob (v := .ref a.LogError) rfl T.c_LogError rfl) pa_nil)))) (pw_or (pt_tru (pe_callB (by exact call_isG (L2N.Zn.zc hz) hf) rfl T.b_isinstance (by decide +kernel) (pa_cons (pv 3) (pa_cons (pe_glob (v := .ref a.BadDump) rfl T.c_BadDump rfl) pa_nil)))) (pw_or1 (pt_not (pt_tru (pe_callB (by exact call_isG (L2N.Zn.zc hz) hf) rfl T.b_isinstance (by decide +kernel) (pa_cons (pv 3) (pa_cons (pe_glob (v := .ref a.LinkError) rfl T.c_LinkError rfl) pa_nil)))))))))) (pss_one (ps_ret pe_bl)) pss_nil)
      (pss_one (ps_ret (pe_and (pe_callB (by exact call_isG (L2N.Zn.zc hz) hf) rfl T.b_isinstance (by decide +kernel) (pa_cons (pv 3) (pa_cons (pe_bltn (v := .ty "ValueError") rfl T.b_ValueError (by decide +kernel) rfl) pa_nil))) (pe_one (pe_callHA H__law_is (roomH_s hrH (by decide) rfl rfl) (hot_suite hz hf) T.n__law_is (pa_cons (by exact pe_xfG (L2N.Zn.zc hz) hf (pv 3)) (pa_cons (pe_ix ix_seq (pv 1) pe_int (fun _ _ => rfl)) pa_nil))))))))))
      (pss_cons (ps_if (PW.pt (pw_or (pt_not (pt_tru (pe_ix ix_seq (pv 1) pe_int (fun _ _ => rfl)))) (pw_or1 (pt_not (pt_tru (pe_callA G__law_integers (Room.mono hr (by decide)) T.n__law_integers tk (pa_cons (pv 2) (pa_cons (pe_ix ix_seq (pv 1) pe_int (fun _ _ => rfl)) pa_nil)))))))) (pss_one (ps_ret pe_bl)) pss_nil)
      (pss_cons (ps_expr (pe_bm PySem.F.plainAttrs_list PySem.F.slot_list_append PySem.F.type_list_append mt_append (pv 2) (pa_cons pe_int pa_nil)))
      (pss_cons (ps_expr (pe_bm0 PySem.F.plainAttrs_list PySem.F.slot_list_reverse PySem.F.type_list_reverse mt_reverse (pv 2)))
      (pss_one (ps_ret (pe_callA G__law_integers (Room.mono hr (by decide)) T.n__law_integers tk (pa_cons (pe_callA G_parse_log (Room.mono hr (by decide)) T.n_parse_log tk (pa_cons (pv 0) pa_nil)) (pa_cons (pe_ix ix_seq (pv 1) pe_int (fun _ _ => rfl)) pa_nil))))))))), ?_⟩
  show (_ : Ends → L2.St → Hp → Prop) _ [some _, some _, none, none] _
  try dsimp only [L2H.cxH, cxOf]
  have hsum := words_sum z
  walk_at "w"
  rcases hD with ⟨us, r0, hl, hT, hr0, hul⟩ | ⟨i, hb, hT⟩
  · refine ⟨z, rfl, hz, fun i hb => (log_bad hl hb).elim, fun us' r H1 hl' hr k1 hr1 => ?_⟩
    obtain rfl := log_one hl' hl
    have hT1 := k1.at0 hT
    have hr01 := k1.at0 hr0
    have hrr : r0 ≠ r := ne_of_none hr0 hr
    walk_at "w"
    refine ⟨r, r0, us', us', rfl, hr1, hr01, by omega, by omega, ?_⟩
    rw [decide_eq_true rfl]
    walk_at "w"
    refine ⟨z, rfl, hz, fun i hb => (log_bad hl hb).elim, fun us2 r2 H2 hl2 hr2 k2 hr22 => ?_⟩
    obtain rfl := log_one hl2 hl
    have hr02 := k2.at0 (show _ = _ from upd_get hrr (upd_get hrr hr01))
    walk_at "w"
    refine ⟨r2, r0, us2, us2, rfl, hr22, hr02, by omega, by omega, ?_⟩
    rw [decide_eq_true rfl]
    exact k H2 ((k1.own hr).own hr |>.trans0 k2)
  · refine ⟨z, rfl, hz, fun j hb' d H3 hd hd3 k3 => ?_, fun us' r H1 hl' => (log_bad hl' hb).elim⟩
    obtain rfl := bad_one hb' hb
    refine w_asT T.t_BadText_BadText.2 (fun x hx => ?_)
    have hT3 := k3.at0 hT
    walk_at "w"
    refine ⟨_, _, rfl, ?_⟩
    rw [decide_eq_true rfl]
    exact k H3 k3
def sp__law_format_right (a : AD) : Sp := fun vs H Q _ => ∃ (p : Addr) (us : List Int), vs = [.ref p, .str (logOf us)] ∧ H p = some (.lst (us.map V.int)) ∧ us.length ≤ 100 ∧ OpsOk us ∧ ∀ H', Kp [] H H' → Q (.bl true) H'
theorem sc__law_format_right : FnScope ["_law_log_here", "_law_text", "_law_given", "_law_told"] ["_law_log_here", "_law_text"] (defScope s__law_format_right) := ⟨rfl, rfl, rfl, by decide +kernel, rfl, by decide +kernel, by decide +kernel⟩
theorem ok__law_format_right {P : Program} {w : World} {K : PySem.W.Frag} {mg : Str → Option Value} {base : Heap} {a : AD} (T : Txt P K mg a) (G_format_log : FnA P w K mg base 2 a.f_format_log ["log"] (sp_format_log a)) (G__law_integers : FnA P w K mg base 3 a.f__law_integers ["_law_told", "_law_due"] (sp__law_integers a)) : FnA P w K mg base 4 a.f__law_format_right ["_law_log_here", "_law_text"] (sp__law_format_right a) := by
  obtain ⟨fd, F, b⟩ := T.F__law_format_right
  refine FnA.of F sc__law_format_right b (fun vs H Q E h => by first | (obtain ⟨rfl, _⟩ := h; rfl) | (obtain ⟨_, rfl, _⟩ := h; rfl) | (obtain ⟨_, _, rfl, _⟩ := h; rfl) | (obtain ⟨_, _, _, rfl, _⟩ := h; rfl) | (obtain ⟨_, _, _, _, rfl, _⟩ := h; rfl) | (obtain ⟨_, _, _, _, _, rfl, _⟩ := h; rfl) | (obtain ⟨_, _, _, _, _, _, rfl, _⟩ := h; rfl) | (obtain ⟨_, _, _, _, _, _, _, rfl, _⟩ := h; rfl) | (obtain ⟨_, _, _, _, _, _, _, _, rfl, _⟩ := h; rfl) | (obtain ⟨_, _, _, _, _, _, _, _, _, rfl, _⟩ := h; rfl) | (obtain ⟨_, _, _, _, _, _, _, _, _, _, rfl, _⟩ := h; rfl) | (obtain ⟨_, _, _, _, _, _, _, _, _, _, _, rfl, _⟩ := h; rfl) | (obtain ⟨_, _, _, _, _, _, _, _, _, _, _, _, rfl, _⟩ := h; rfl) | (obtain ⟨_, _, _, _, _, _, _, _, _, _, _, _, _, rfl, _⟩ := h; rfl) | (obtain ⟨_, _, _, _, _, _, _, _, _, _, _, _, _, _, rfl, _⟩ := h; rfl) | (obtain ⟨_, _, _, _, _, _, _, _, _, _, _, _, _, _, _, rfl, _⟩ := h; rfl) | (obtain ⟨_, _, _, _, _, _, _, _, _, _, _, _, _, _, _, _, rfl, _⟩ := h; rfl) | (obtain ⟨_, _, _, _, _, _, _, _, _, _, _, _, _, _, _, _, _, rfl, _⟩ := h; rfl) | (obtain ⟨_, _, _, _, _, _, _, _, _, _, _, _, _, _, _, _, _, _, rfl, _⟩ := h; rfl) | (obtain ⟨_, _, _, _, _, _, _, _, _, _, _, _, _, _, _, _, _, _, _, rfl, _⟩ := h; rfl) | (obtain ⟨_, _, _, _, _, _, _, _, _, _, _, _, _, _, _, _, _, _, _, _, rfl, _⟩ := h; rfl) | (obtain ⟨_, _, _, _, _, _, _, _, _, _, _, _, _, _, _, _, _, _, _, _, _, rfl, _⟩ := h; rfl) | (obtain ⟨_, _, _, _, _, _, _, _, _, _, _, _, _, _, _, _, _, _, _, _, _, _, rfl, _⟩ := h; rfl) | (obtain ⟨_, _, _, _, _, _, _, _, _, _, _, _, _, _, _, _, _, _, _, _, _, _, _, rfl, _⟩ := h; rfl)) (fun cdv A outer s H vs Q E hr tk pz h => ?_)
  have hu := hr.units
  have hrH := L2H.roomH_of hr
  obtain ⟨p, us, rfl, hp, hl, hok, k⟩ := h
  refine ⟨_, (pss_cons (ps_set (i := 2) sc__law_format_right.nd rfl (Or.inl rfl) (pe_callTy b_list rfl T.b_list (by decide +kernel) (pa_cons (pv 0) pa_nil)))
      (pss_cons (ps_set (i := 3) sc__law_format_right.nd rfl (Or.inl rfl) (pe_callA G_format_log (Room.mono hr (by decide)) T.n_format_log tk (pa_cons (pv 2) pa_nil)))
      (pss_one (ps_ret (pe_and (pe_callB (call_isi) rfl T.b_isinstance (by decide +kernel) (pa_cons (pv 3) (pa_cons (pe_bltn (v := .ty "str") rfl T.b_str (by decide +kernel) rfl) pa_nil))) (pe_and (pe_cmpR (o_eq hu) (pv 3) (pv 1) (nomark _)) (pe_one (pe_callA G__law_integers (Room.mono hr (by decide)) T.n__law_integers tk (pa_cons (pv 2) (pa_cons (pv 0) pa_nil)))))))))), ?_⟩
  show (_ : Ends → L2.St → Hp → Prop) _ [some _, some _, none, none] _
  try dsimp only [L2H.cxH, cxOf]
  walk_at "w"
  intro g hg
  have kg := Kp.refl.new (ms := []) (o := .lst (us.map V.int)) hg
  have hg1 : upd H g (.lst (us.map V.int)) g = some (.lst (us.map V.int)) := upd_same
  have hp1 := kg.at0 hp
  generalize upd H g (.lst (us.map V.int)) = H1 at kg hg1 hp1 ⊢
  walk_at "w"
  refine ⟨g, us, rfl, hg1, by omega, fun u hu => by have := (hok u hu).2; omega, fun i hi => absurd rfl (hok 0 (List.mem_of_getElem? hi)).1, fun _ H2 k2 => ?_⟩
  have hg2 := k2.at0 hg1
  have hp2 := k2.at0 hp1
  walk_at "w"
  refine ⟨g, p, us, us, rfl, hg2, hp2, by omega, by omega, ?_⟩
  rw [decide_eq_true rfl]
  exact k H2 (kg.trans0 k2)
def sp__law_zero_refused (a : AD) : Sp := fun vs H Q _ => ∃ (p : Addr) (us : List Int) (pl mo : Int), vs = [.ref p, .int pl, .int mo] ∧ H p = some (.lst (us.map V.int)) ∧ us.length ≤ 100 ∧ OpsOk us ∧ 0 ≤ pl ∧ pl ≤ us.length ∧ 0 ≤ mo ∧ mo ≤ 1 ∧ ∀ H', Kp [] H H' → Q (.bl true) H'
theorem sc__law_zero_refused : FnScope ["_law_log_here", "_law_place", "_law_more", "_law_given", "_law_kept", "raised"] ["_law_log_here", "_law_place", "_law_more"] (defScope s__law_zero_refused) := ⟨rfl, rfl, rfl, by decide +kernel, rfl, by decide +kernel, by decide +kernel⟩
theorem ok__law_zero_refused {P : Program} {w : World} {K : PySem.W.Frag} {mg : Str → Option Value} {base : Heap} {a : AD} (T : Txt P K mg a) (G_format_log : FnA P w K mg base 2 a.f_format_log ["log"] (sp_format_log a)) (H__law_is : FnHA P w K mg base 2 a.f__law_is ["_law_told", "_law_due"] (sp__law_is a)) (H__law_integers : FnHA P w K mg base 3 a.f__law_integers ["_law_told", "_law_due"] (sp__law_integers a)) : FnA P w K mg base 4 a.f__law_zero_refused ["_law_log_here", "_law_place", "_law_more"] (sp__law_zero_refused a) := by
  obtain ⟨fd, F, b⟩ := T.F__law_zero_refused
  refine FnA.of F sc__law_zero_refused b (fun vs H Q E h => by first | (obtain ⟨rfl, _⟩ := h; rfl) | (obtain ⟨_, rfl, _⟩ := h; rfl) | (obtain ⟨_, _, rfl, _⟩ := h; rfl) | (obtain ⟨_, _, _, rfl, _⟩ := h; rfl) | (obtain ⟨_, _, _, _, rfl, _⟩ := h; rfl) | (obtain ⟨_, _, _, _, _, rfl, _⟩ := h; rfl) | (obtain ⟨_, _, _, _, _, _, rfl, _⟩ := h; rfl) | (obtain ⟨_, _, _, _, _, _, _, rfl, _⟩ := h; rfl) | (obtain ⟨_, _, _, _, _, _, _, _, rfl, _⟩ := h; rfl) | (obtain ⟨_, _, _, _, _, _, _, _, _, rfl, _⟩ := h; rfl) | (obtain ⟨_, _, _, _, _, _, _, _, _, _, rfl, _⟩ := h; rfl) | (obtain ⟨_, _, _, _, _, _, _, _, _, _, _, rfl, _⟩ := h; rfl) | (obtain ⟨_, _, _, _, _, _, _, _, _, _, _, _, rfl, _⟩ := h; rfl) | (obtain ⟨_, _, _, _, _, _, _, _, _, _, _, _, _, rfl, _⟩ := h; rfl) | (obtain ⟨_, _, _, _, _, _, _, _, _, _, _, _, _, _, rfl, _⟩ := h; rfl) | (obtain ⟨_, _, _, _, _, _, _, _, _, _, _, _, _, _, _, rfl, _⟩ := h; rfl) | (obtain ⟨_, _, _, _, _, _, _, _, _, _, _, _, _, _, _, _, rfl, _⟩ := h; rfl) | (obtain ⟨_, _, _, _, _, _, _, _, _, _, _, _, _, _, _, _, _, rfl, _⟩ := h; rfl) | (obtain ⟨_, _, _, _, _, _, _, _, _, _, _, _, _, _, _, _, _, _, rfl, _⟩ := h; rfl) | (obtain ⟨_, _, _, _, _, _, _, _, _, _, _, _, _, _, _, _, _, _, _, rfl, _⟩ := h; rfl) | (obtain ⟨_, _, _, _, _, _, _, _, _, _, _, _, _, _, _, _, _, _, _, _, rfl, _⟩ := h; rfl) | (obtain ⟨_, _, _, _, _, _, _, _, _, _, _, _, _, _, _, _, _, _, _, _, _, rfl, _⟩ := h; rfl) | (obtain ⟨_, _, _, _, _, _, _, _, _, _, _, _, _, _, _, _, _, _, _, _, _, _, rfl, _⟩ := h; rfl) | (obtain ⟨_, _, _, _, _, _, _, _, _, _, _, _, _, _, _, _, _, _, _, _, _, _, _, rfl, _⟩ := h; rfl)) (fun cdv A outer s H vs Q E hr tk pz h => ?_)
  have hu := hr.units
  have hrH := L2H.roomH_of hr
  obtain ⟨p, us, pl, mo, rfl, hp, hl, hok, pl0, pl1, mo0, mo1, k⟩ := h
  refine ⟨_, (pss_cons (ps_set (i := 3) sc__law_zero_refused.nd rfl (Or.inl rfl) (pe_op o_add (pe_op o_add (pe_op o_add (pe_slice sl_any (pv 0) po_none (po_some (pv 1))) (pe_lst (pa_cons pe_int pa_nil))) (pe_slice sl_any (pv 0) (po_some (pv 1)) po_none)) (pe_op o_mul (pe_lst (pa_cons pe_int pa_nil)) (pv 2))))
      (pss_cons (ps_set (i := 4) sc__law_zero_refused.nd rfl (Or.inl rfl) (pe_callTy b_list rfl T.b_list (by decide +kernel) (pa_cons (pv 3) pa_nil)))
      (pss_cons (L2N.ps_try_as (i := 5) (tb := fun W => (tDrop (tCallS (sp_format_log a) (WE W) (tCons (tVar 3) tNil)))) (ts := fun ea cls d => (tSeq (tIfS (tOr (cTru K (tCB (rIsG K ea cls d) (tCons (tVar 5) (tCons (tC (.ref a.Illegal)) tNil)))) (tOr (cTru K (tCB (rIsG K ea cls d) (tCons (tVar 5) (tCons (tC (.ref a.Refused)) tNil)))) (tNot (cTru K (tCB (rIsG K ea cls d) (tCons (tVar 5) (tCons (tC (.ref a.LogError)) tNil))))))) (tRet (tC (.bl false))) tNext) (tSeq (tIfS (tOr (tNot (cTru K (tCB (rIsG K ea cls d) (tCons (tVar 5) (tCons (tC (.ref a.LinkError)) tNil))))) (tNot (cTru K (tCB (rIsG K ea cls d) (tCons (tVar 5) (tCons (tC (.ty "ValueError")) tNil)))))) (tRet (tC (.bl false))) tNext) (tRet (tAndV (tCallS (sp__law_is a) (fun _ => E0) (tCons (tXfG K ea cls d "operation" (tVar 5)) (tCons (tC (.int 0)) tNil))) (tAndV (tCallS (sp__law_is a) (fun _ => E0) (tCons (tXfG K ea cls d "index" (tVar 5)) (tCons (tVar 1) tNil))) (tCallS (sp__law_integers a) (fun _ => E0) (tCons (tVar 3) (tCons (tVar 4) tNil))))))))) rfl rfl sc__law_zero_refused.nd rfl rfl ⟨rfl, by decide, Or.inl T.c_BadOperation⟩ tk
      (fun W pn xe tk2 pz => (pss_one (ps_expr (pe_callA G_format_log (Room.mono hr (by decide)) T.n_format_log tk2 (pa_cons (pv 3) pa_nil)))))
      (fun ea oe cls d pn hz hf => (pss_cons (ps_if (PW.pt (pw_or (pt_tru (pe_callB (by exact call_isG (L2N.Zn.zc hz) hf) rfl T.b_isinstance (by decide +kernel) (pa_cons (pv 5) (pa_cons (pe_glob (v := .ref a.Illegal) rfl T.c_Illegal rfl) pa_nil)))) (pw_or (pt_tru (pe_callB (by exact call_isG (L2N.Zn.zc hz) hf) rfl T.b_isinstance (by decide +kernel) (pa_cons (pv 5) (pa_cons (pe_glob (v := .ref a.Refused) rfl T.c_Refused rfl) pa_nil)))) (pw_or1 (pt_not (pt_tru (pe_callB (by exact call_isG (L2N.Zn.zc hz) hf) rfl T.b_isinstance (by decide +kernel) (pa_cons (pv 5) (pa_cons (pe_glob (v := .ref a.LogError) rfl T.c_LogError rfl) pa_nil))))))))) (pss_one (ps_ret pe_bl)) pss_nil)
      (pss_cons (ps_if (PW.pt (pw_or (pt_not (pt_tru (pe_callB (by exact call_isG (L2N.Zn.zc hz) hf) rfl T.b_isinstance (by decide +kernel) (pa_cons (pv 5) (pa_cons (pe_glob (v := .ref a.LinkError) rfl T.c_LinkError rfl) pa_nil))))) (pw_or1 (pt_not (pt_tru (pe_callB (by exact call_isG (L2N.Zn.zc hz) hf) rfl T.b_isinstance (by decide +kernel) (pa_cons (pv 5) (pa_cons (pe_bltn (v := .ty "ValueError") rfl T.b_ValueError (by decide +kernel) rfl) pa_nil)))))))) (pss_one (ps_ret pe_bl)) pss_nil)
      (pss_one (ps_ret (pe_and (pe_callHA H__law_is (roomH_s hrH (by decide) rfl rfl) (hot_suite hz hf) T.n__law_is (pa_cons (by exact pe_xfG (L2N.Zn.zc hz) hf (pv 5)) (pa_cons pe_int pa_nil))) (pe_and (pe_callHA H__law_is (roomH_s hrH (by decide) rfl rfl) (hot_suite hz hf) T.n__law_is (pa_cons (by exact pe_xfG (L2N.Zn.zc hz) hf (pv 5)) (pa_cons (pv 1) pa_nil))) (pe_one (pe_callHA H__law_integers (roomH_s hrH (by decide) rfl rfl) (hot_suite hz hf) T.n__law_integers (pa_cons (pv 3) (pa_cons (pv 4) pa_nil))))))))))))
      (pss_one (ps_ret pe_bl))))), ?_⟩
  show (_ : Ends → L2.St → Hp → Prop) _ [some _, some _, some _, none, none, none] _
  try dsimp only [L2H.cxH, cxOf]
  have la : (us.take pl.toNat).length ≤ 100 := by rw [List.length_take]; omega
  have lb : (us.drop pl.toNat).length ≤ 100 := by rw [List.length_drop]; omega
  have lm : (List.replicate mo.toNat (0 : Int)).length ≤ 1 := by rw [List.length_replicate]; omega
  have l0 : ([0] : List Int).length = 1 := rfl
  have l3 : (us.take pl.toNat ++ [0]).length ≤ 101 := by rw [List.length_append]; omega
  have l5 : (us.take pl.toNat ++ [0] ++ us.drop pl.toNat).length ≤ 201 := by rw [List.length_append]; omega
  have l8 : (us.take pl.toNat ++ [0] ++ us.drop pl.toNat ++ List.replicate mo.toNat (0 : Int)).length ≤ 202 := by rw [List.length_append]; omega
  have z0 : (HO.lst [.int 0]) = .lst (([0] : List Int).map V.int) := rfl
  walk_at "w"
  rw [cut_front pl0 pl1]
  intro r1 h1
  have q1 := Kp.refl.new (ms := []) (o := .lst ((us.take pl.toNat).map V.int)) h1
  have e1 : upd H r1 (.lst ((us.take pl.toNat).map V.int)) r1 = some (.lst ((us.take pl.toNat).map V.int)) := upd_same
  have hp_1 := q1.at0 hp
  have k1 := q1
  generalize upd H r1 (.lst ((us.take pl.toNat).map V.int)) = H1 at q1 e1 k1 hp_1 ⊢
  clear q1
  walk_at "w"
  rw [z0]
  intro r2 h2
  have q2 := Kp.refl.new (ms := []) (o := .lst (([0] : List Int).map V.int)) h2
  have e2 : upd H1 r2 (.lst (([0] : List Int).map V.int)) r2 = some (.lst (([0] : List Int).map V.int)) := upd_same
  have hp_2 := q2.at0 hp_1
  have e1_2 := q2.at0 e1
  have k2 := k1.trans0 q2
  generalize upd H1 r2 (.lst (([0] : List Int).map V.int)) = H2 at q2 e2 k2 hp_2 e1_2 ⊢
  clear q2
  walk_at "w"
  intro r3 h3
  have q3 := Kp.refl.new (ms := []) (o := .lst (((us.take pl.toNat) ++ [0]).map V.int)) h3
  have e3 : upd H2 r3 (.lst (((us.take pl.toNat) ++ [0]).map V.int)) r3 = some (.lst (((us.take pl.toNat) ++ [0]).map V.int)) := upd_same
  have hp_3 := q3.at0 hp_2
  have k3 := k2.trans0 q3
  generalize upd H2 r3 (.lst (((us.take pl.toNat) ++ [0]).map V.int)) = H3 at q3 e3 k3 hp_3 ⊢
  clear q3
  walk_at "w"
  rw [cut_back pl0 pl1]
  intro r4 h4
  have q4 := Kp.refl.new (ms := []) (o := .lst ((us.drop pl.toNat).map V.int)) h4
  have e4 : upd H3 r4 (.lst ((us.drop pl.toNat).map V.int)) r4 = some (.lst ((us.drop pl.toNat).map V.int)) := upd_same
  have hp_4 := q4.at0 hp_3
  have e3_4 := q4.at0 e3
  have k4 := k3.trans0 q4
  generalize upd H3 r4 (.lst ((us.drop pl.toNat).map V.int)) = H4 at q4 e4 k4 hp_4 e3_4 ⊢
  clear q4
  walk_at "w"
  intro r5 h5
  have q5 := Kp.refl.new (ms := []) (o := .lst (((us.take pl.toNat) ++ [0] ++ (us.drop pl.toNat)).map V.int)) h5
  have e5 : upd H4 r5 (.lst (((us.take pl.toNat) ++ [0] ++ (us.drop pl.toNat)).map V.int)) r5 = some (.lst (((us.take pl.toNat) ++ [0] ++ (us.drop pl.toNat)).map V.int)) := upd_same
  have hp_5 := q5.at0 hp_4
  have k5 := k4.trans0 q5
  generalize upd H4 r5 (.lst (((us.take pl.toNat) ++ [0] ++ (us.drop pl.toNat)).map V.int)) = H5 at q5 e5 k5 hp_5 ⊢
  clear q5
  walk_at "w"
  rw [z0]
  intro r6 h6
  have q6 := Kp.refl.new (ms := []) (o := .lst (([0] : List Int).map V.int)) h6
  have e6 : upd H5 r6 (.lst (([0] : List Int).map V.int)) r6 = some (.lst (([0] : List Int).map V.int)) := upd_same
  have hp_6 := q6.at0 hp_5
  have e5_6 := q6.at0 e5
  have k6 := k5.trans0 q6
  generalize upd H5 r6 (.lst (([0] : List Int).map V.int)) = H6 at q6 e6 k6 hp_6 e5_6 ⊢
  clear q6
  walk_at "w"
  intro r7 h7
  have q7 := Kp.refl.new (ms := []) (o := .lst ((List.replicate mo.toNat (0 : Int)).map V.int)) h7
  have e7 : upd H6 r7 (.lst ((List.replicate mo.toNat (0 : Int)).map V.int)) r7 = some (.lst ((List.replicate mo.toNat (0 : Int)).map V.int)) := upd_same
  have hp_7 := q7.at0 hp_6
  have e5_7 := q7.at0 e5_6
  have k7 := k6.trans0 q7
  generalize upd H6 r7 (.lst ((List.replicate mo.toNat (0 : Int)).map V.int)) = H7 at q7 e7 k7 hp_7 e5_7 ⊢
  clear q7
  walk_at "w"
  intro r8 h8
  have q8 := Kp.refl.new (ms := []) (o := .lst (((us.take pl.toNat) ++ [0] ++ (us.drop pl.toNat) ++ List.replicate mo.toNat (0 : Int)).map V.int)) h8
  have e8 : upd H7 r8 (.lst (((us.take pl.toNat) ++ [0] ++ (us.drop pl.toNat) ++ List.replicate mo.toNat (0 : Int)).map V.int)) r8 = some (.lst (((us.take pl.toNat) ++ [0] ++ (us.drop pl.toNat) ++ List.replicate mo.toNat (0 : Int)).map V.int)) := upd_same
  have hp_8 := q8.at0 hp_7
  have k8 := k7.trans0 q8
  generalize upd H7 r8 (.lst (((us.take pl.toNat) ++ [0] ++ (us.drop pl.toNat) ++ List.replicate mo.toNat (0 : Int)).map V.int)) = H8 at q8 e8 k8 hp_8 ⊢
  clear q8
  have hat : (us.take pl.toNat ++ [0] ++ us.drop pl.toNat ++ List.replicate mo.toNat (0 : Int))[pl.toNat]? = some 0 := by
    have ht : (us.take pl.toNat).length = pl.toNat := by rw [List.length_take]; omega
    rw [List.append_assoc, List.append_assoc, List.getElem?_append_right (by omega), ht, Nat.sub_self]; rfl
  have hbe : ∀ j : Nat, j < pl.toNat → (us.take pl.toNat ++ [0] ++ us.drop pl.toNat ++ List.replicate mo.toNat (0 : Int))[j]? ≠ some 0 := fun j hj e => by
    have ht : (us.take pl.toNat).length = pl.toNat := by rw [List.length_take]; omega
    rw [List.append_assoc, List.append_assoc, List.getElem?_append_left (by omega)] at e
    exact (hok 0 (List.mem_of_mem_take (List.mem_of_getElem? e))).1 rfl
  have hbd : ∀ u ∈ us.take pl.toNat ++ [0] ++ us.drop pl.toNat ++ List.replicate mo.toNat (0 : Int), u.natAbs < 1000000000000 := fun u hu => by
    have hz : (0 : Int).natAbs < 1000000000000 := by decide
    rcases List.mem_append.mp hu with y | y
    · rcases List.mem_append.mp y with y | y
      · rcases List.mem_append.mp y with y | y
        · have := (hok u (List.mem_of_mem_take y)).2; omega
        · rw [List.mem_singleton.mp y]; exact hz
      · have := (hok u (List.mem_of_mem_drop y)).2; omega
    · rw [List.eq_of_mem_replicate y]; exact hz
  generalize us.take pl.toNat ++ [0] ++ us.drop pl.toNat ++ List.replicate mo.toNat (0 : Int) = gs at l8 e8 hat hbe hbd
  walk_at "w"
  intro r9 h9
  have q9 := Kp.refl.new (ms := []) (o := .lst (gs.map V.int)) h9
  have e9 : upd H8 r9 (.lst (gs.map V.int)) r9 = some (.lst (gs.map V.int)) := upd_same
  have e8_9 := q9.at0 e8
  have k9 := k8.trans0 q9
  generalize upd H8 r9 (.lst (gs.map V.int)) = H9 at e9 e8_9 k9 ⊢
  clear q9
  have hpn : ((pl.toNat : Nat) : Int) = pl := by omega
  walk_at "w"
  refine ⟨r8, gs, rfl, e8_9, by omega, hbd, fun i hi hj d H10 hd hd10 k10 => ?_, fun hno => absurd rfl (hno 0 (List.mem_of_getElem? hat))⟩
  have hip : i = pl.toNat := by
    rcases Nat.lt_trichotomy i pl.toNat with y | y | y
    · exact absurd hi (hbe i y)
    · exact y
    · exact absurd hat (hj _ y)
  rw [hip, hpn] at hd10
  refine w_asT T.t_BadOperation_BadOperation.2 (fun x hx => ?_)
  have e8_10 := k10.at0 e8_9
  have e9_10 := k10.at0 e9
  walk_at "w"
  refine ⟨_, _, rfl, ?_⟩
  walk_at "w"
  refine ⟨_, _, rfl, ?_⟩
  walk_at "w"
  refine ⟨_, _, _, _, rfl, e8_10, e9_10, by omega, by omega, ?_⟩
  rw [decide_eq_true rfl]
  exact k H10 (k9.trans0 k10)
/-! ### the law -/
theorem logOf_is {us : List Int} (h : OpsOk us) : LogIs (logOf us) us := by
  cases us with
  | nil => exact .inl ⟨by decide +kernel, rfl⟩
  | cons u us =>
    have hs : wordsOf (logOf (u :: us)) = (u :: us).map strP := split_strP (by simp)
    right
    refine ⟨fun e => ?_, fun w hw => ?_, ?_⟩
    · rw [e, show wordsOf "" = ([""] : List Str) by decide +kernel, List.map_cons] at hs
      have h1 : ("" : Str) = strP u := by
        injection hs
      have := tl_strP u
      rw [← h1, show TL.tl "" = [] by decide +kernel] at this
      cases this
    · rw [hs] at hw
      obtain ⟨v, hv, rfl⟩ := List.mem_map.mp hw
      exact (op_strP (h v hv).1 (h v hv).2).1
    · rw [hs, List.map_map]
      conv => lhs; rw [← List.map_id (u :: us)]
      apply List.map_congr_left
      intro v hv
      exact (op_strP (h v hv).1 (h v hv).2).2.symm
theorem logOf_len {us : List Int} (h : OpsOk us) (hl : us.length ≤ 47) : (logOf us).length ≤ 940 ∧ ((us.map strP).map (·.length)).sum ≤ 893 := by
  have h1 := strP_sum (us := us) (fun u hu => by have := (h u hu).2; omega)
  have h2 := join_sum (us.map strP)
  unfold sumL at h2
  rw [List.length_map] at h2
  unfold logOf
  omega
def spL (K : PySem.W.Frag) : Sp := fun vs H Q E => ∃ (p : Addr) (ns : List Int), vs = [.ref p] ∧ SqL K H p (ns.map V.int) ∧ ∀ H', Q (.bl true) H'
theorem spL_ok {K : PySem.W.Frag} {H : Hp} {a : Addr} {ns : List Int} (hl : ns.length ≤ 63) (hS : SqL K H a (ns.map V.int)) : spL K [.ref a] H (fun v _ => v = .bl true) fun _ _ _ => False := ⟨a, ns, rfl, hS, fun _ => rfl⟩
theorem sc_law : FnScope ["_law_script", "_law_box_here", "_law_log_here", "_law_operation", "_law_text", "_law_place", "_law_more", "_law_bent", "_law_turn"] ["_law_script"] (defScope s_law) := ⟨rfl, rfl, rfl, by decide +kernel, rfl, by decide +kernel, by decide +kernel⟩
theorem ok_law {P : Program} {w : World} {K : PySem.W.Frag} {mg : Str → Option Value} {base : Heap} {a : AD} (T : Txt P K mg a) {fd : FuncData} (F : Fun K "law" "law" s_law a.f_law fd) (G__law_box : FnA P w K mg base 2 a.f__law_box ["_law_script"] (sp__law_box K a)) (G__law_log : FnA P w K mg base 4 a.f__law_log ["_law_box_here"] (sp__law_log a)) (G__law_word : FnA P w K mg base 2 a.f__law_word ["_law_operation"] (sp__law_word a)) (G__law_draw : FnA P w K mg base 2 a.f__law_draw ["_law_box_here", "_law_many"] (sp__law_draw a)) (G__law_spoilt : FnA P w K mg base 4 a.f__law_spoilt ["_law_box_here", "_law_text"] (sp__law_spoilt a)) (G__law_format_right : FnA P w K mg base 4 a.f__law_format_right ["_law_log_here", "_law_text"] (sp__law_format_right a)) (G__law_parse_right : FnA P w K mg base 4 a.f__law_parse_right ["_law_text", "_law_due"] (sp__law_parse_right a)) (G__law_zero_refused : FnA P w K mg base 4 a.f__law_zero_refused ["_law_log_here", "_law_place", "_law_more"] (sp__law_zero_refused a)) (G__law_read : FnA P w K mg base 3 a.f__law_read ["_law_text"] (sp__law_read a)) : FnOk P w K mg base (L2N.CX P w) 5 a.f_law fd ["_law_script"] (spL K) := by
  refine FnOk_of F sc_law (fun vs H Q E h => by first | (obtain ⟨_, rfl, _⟩ := h; rfl) | (obtain ⟨_, _, rfl, _⟩ := h; rfl)) (fun cdv A outer s H vs Q E hr tk pz h => ?_)
  have hu := hr.units
  have hrH := L2H.roomH_of hr
  obtain ⟨p, ns, rfl, hp, k⟩ := h
  refine ⟨_, (pss_cons (ps_set (i := 1) sc_law.nd rfl (Or.inl rfl) (pe_callA G__law_box (Room.mono hr (by decide)) T.n__law_box tk (pa_cons (pv 0) pa_nil)))
      (pss_cons (ps_set (i := 2) sc_law.nd rfl (Or.inl rfl) (pe_callA G__law_log (Room.mono hr (by decide)) T.n__law_log tk (pa_cons (pv 1) pa_nil)))
      (pss_cons (ps_set (i := 4) sc_law.nd rfl (Or.inl rfl) (pe_bm PySem.F.plainAttrs_str PySem.F.slot_str_join PySem.F.type_str_join m_join pe_str (pa_cons (pe_lc (own := [("_law_operation", 3)]) (g := (gName 3)) (tt := tYes) rfl sc_law.nd (pi_list (pv 2)) (blkOk_by (own := [("_law_operation", 3)]) (N := ["_law_script", "_law_box_here", "_law_log_here", "_law_operation", "_law_text", "_law_place", "_law_more", "_law_bent", "_law_turn"]) (sc := defScope s_law) (by decide +kernel)) (fun _ _ _ _ _ => (pg_name (i := 3) sc_law.nd rfl (Or.inl rfl))) (fun _ _ _ _ _ => pts_nil) (fun _ _ _ _ _ => (pe_callA G__law_word (Room.mono hr (by decide)) T.n__law_word takes0 (pa_cons (pv 3) pa_nil)))) pa_nil)))
      (pss_cons (ps_set (i := 5) sc_law.nd rfl (Or.inl rfl) (pe_callA G__law_draw (Room.mono hr (by decide)) T.n__law_draw tk (pa_cons (pv 1) (pa_cons (pe_op o_add (pe_callB (b_len) rfl T.b_len (by decide +kernel) (pa_cons (pv 2) pa_nil)) pe_int) pa_nil))))
      (pss_cons (ps_set (i := 6) sc_law.nd rfl (Or.inl rfl) (pe_callA G__law_draw (Room.mono hr (by decide)) T.n__law_draw tk (pa_cons (pv 1) (pa_cons pe_int pa_nil))))
      (pss_cons (ps_set (i := 7) sc_law.nd rfl (Or.inl rfl) (pv 4))
      (pss_cons (ps_for pz rfl (pi_range1 rfl T.b_range (pa_cons (pe_op o_add pe_int (pe_callA G__law_draw (Room.mono hr (by decide)) T.n__law_draw tk (pa_cons (pv 1) (pa_cons pe_int pa_nil)))) pa_nil)) (pg_name (i := 8) sc_law.nd rfl (Or.inl rfl))
      (pss_one (ps_set (i := 7) sc_law.nd rfl (Or.inl rfl) (pe_callA G__law_spoilt (Room.mono hr (by decide)) T.n__law_spoilt tk (pa_cons (pv 1) (pa_cons (pv 7) pa_nil))))))
      (pss_cons (ps_if (PW.pt (pw_or (pt_not (pt_tru (pe_callA G__law_format_right (Room.mono hr (by decide)) T.n__law_format_right tk (pa_cons (pv 2) (pa_cons (pv 4) pa_nil))))) (pw_or1 (pt_not (pt_tru (pe_callA G__law_parse_right (Room.mono hr (by decide)) T.n__law_parse_right tk (pa_cons (pv 4) (pa_cons (pe_tup (pa_cons pe_bl (pa_cons (pv 2) pa_nil))) pa_nil)))))))) (pss_one (ps_ret pe_bl)) pss_nil)
      (pss_cons (ps_if (pt_not (pt_tru (pe_callA G__law_zero_refused (Room.mono hr (by decide)) T.n__law_zero_refused tk (pa_cons (pv 2) (pa_cons (pv 5) (pa_cons (pv 6) pa_nil)))))) (pss_one (ps_ret pe_bl)) pss_nil)
      (pss_one (ps_ret (pe_callA G__law_parse_right (Room.mono hr (by decide)) T.n__law_parse_right tk (pa_cons (pv 7) (pa_cons (pe_callA G__law_read (Room.mono hr (by decide)) T.n__law_read tk (pa_cons (pv 7) pa_nil)) pa_nil)))))))))))))), ?_⟩
  show (_ : Ends → L2.St → Hp → Prop) _ [some _, none, none, none, none, none, none, none, none] _
  try dsimp only [L2H.cxH, cxOf]
  walk_at "w"
  refine ⟨p, ns, rfl, hp, fun b q H1 hb B1 k1 => ?_⟩
  walk_at "w"
  refine ⟨b, q, rfl, B1, fun g us H2 hg hg2 hok hul B2 k2 => ?_⟩
  have gb : g ∉ [b] := fun z => B1.b hg (List.mem_singleton.mp z)
  clear k1 k2 B1 hb
  obtain ⟨ll, ls⟩ := logOf_len hok hul
  walk_at "w"
  refine w_lcM (us := us) (f := V.int) (f' := V.str) (fun x => some (strP x)) hg2 (by rw [sizeLine_eq]; omega) ?_ ?_
  · intro D j x acc H' hD hx hk hA hlen
    walk_at "w"
    refine ⟨rfl, ?_⟩
    walk_at "w"
    refine ⟨x, rfl, (hok x (List.mem_of_getElem? hx)).2, ?_⟩
    exact w_keep hk hA hlen hD rfl
  intro D H3 hD k3 hA
  rw [fm_some] at hA
  have hg3 := k3.at0 hg2
  have B3 := B2.kp k3
  walk_at "w"
  refine w_join hA ?_ ?_
  · rw [List.length_map]
    show _ + us.length * 1 ≤ _
    omega
  have he : Txt.join " " (us.map strP) = logOf us := rfl
  rw [he]
  clear hA hD k3 hg2 B2 hg
  walk_at "w"
  refine ⟨b, q, _, rfl, B3, by omega, by omega, fun pl H4 pl0 pl1 B4 k4 => ?_⟩
  have hg4 := k4 g _ hg3 gb
  walk_at "w"
  refine ⟨b, q, 2, rfl, B4, by omega, by omega, fun mo H5 mo0 mo1 B5 k5 => ?_⟩
  have hg5 := k5 g _ hg4 gb
  clear hg3 hg4 k4 k5 B3 B4
  walk_at "w"
  refine ⟨b, q, 2, rfl, B5, by omega, by omega, fun tn H6 tn0 tn1 B6 k6 => ?_⟩
  have hg6 := k6 g _ hg5 gb
  clear hg5 B5 k6
  walk_at "w"
  refine w_rng1 (n := 1 + tn) (by omega) (by omega) (fun i σ' H' => ∃ (z : Str) (z8 z3 : Option V), σ' = [some (.ref p), some (.ref b), some (.ref g), z3, some (.str (logOf us)), some (.int pl), some (.int mo), some (.str z), z8] ∧ Box H' b q ∧ H' g = some (.lst (us.map V.int)) ∧ (i = 0 → z.length ≤ 940) ∧ (i = 1 → z.length ≤ 4000) ∧ (2 ≤ i → z.length ≤ 20000)) ⟨logOf us, _, _, rfl, B6, hg6, fun _ => ll, fun z => by omega, fun z => by omega⟩ ?_ ?_
  · rintro i σ' H' hi ⟨z, z8, z3, rfl, B7, hg7, l0, l1, l2⟩
    walk_at "w"
    refine ⟨b, q, z, rfl, B7, ?_, fun v H8 hv B8 k8 => ?_⟩
    · rcases (show i = 0 ∨ i = 1 by omega) with y | y
      · have := l0 y; omega
      · have := l1 y; omega
    have hg8 := k8 g _ hg7 gb
    walk_at "w"
    refine ⟨v, _, _, rfl, B8, hg8, fun y => by omega, fun y => ?_, fun y => ?_⟩
    · have := l0 (by omega); omega
    · have := l1 (by omega); omega
  · rintro σ' H7 ⟨z, z8, z3, rfl, B7, hg7, l0, l1, l2⟩
    have lz : z.length ≤ 20000 := by
      by_cases y : tn = 0
      · have := l1 (by omega); omega
      · exact l2 (by omega)
    clear l0 l1 l2
    walk_at "w"
    refine ⟨g, us, rfl, hg7, by omega, hok, fun H8 k8 => ?_⟩
    have hg8 := k8.at0 hg7
    walk_at "w"
    intro T hT
    have kT := Kp.refl.new (ms := []) (o := .tup [.bl true, .ref g]) hT
    have hT9 : upd H8 T (.tup [.bl true, .ref g]) T = some (.tup [.bl true, .ref g]) := upd_same
    have hg9 := kT.at0 hg8
    generalize upd H8 T (.tup [.bl true, .ref g]) = H9 at kT hT9 hg9 ⊢
    walk_at "w"
    refine ⟨logOf us, T, rfl, by omega, .inl ⟨us, g, logOf_is hok, hT9, hg9, by omega⟩, fun H10 k10 => ?_⟩
    have hg10 := k10.at0 hg9
    walk_at "w"
    refine ⟨g, us, pl, mo, rfl, hg10, by omega, hok, pl0, by omega, mo0, by omega, fun H11 k11 => ?_⟩
    walk_at "w"
    refine ⟨z, rfl, by omega, fun T2 H12 k12 hD => ?_⟩
    walk_at "w"
    refine ⟨z, T2, rfl, by omega, hD, fun H13 k13 => ?_⟩
    exact k H13
/-- what the top has left -/
theorem all_mk {P : Program} {w : World} {K : PySem.W.Frag} {h : Heap} {mg : Str → Option Value} {fa : Addr} (X : K.In h) (G : h.Ns mainGlobals mg) (hfa : mg "law" = some (.ref fa))
    {f_is_number : Addr} {oc_is_number kV_is_number dc_is_number pm_is_number cd_is_number ct_is_number : Value} {od_is_number an_is_number : Option Addr} {sl_is_number : Array (Option Value)}
    {f_format_log : Addr} {oc_format_log kV_format_log dc_format_log pm_format_log cd_format_log ct_format_log : Value} {od_format_log an_format_log : Option Addr} {sl_format_log : Array (Option Value)}
    {f_parse_log : Addr} {oc_parse_log kV_parse_log dc_parse_log pm_parse_log cd_parse_log ct_parse_log : Value} {od_parse_log an_parse_log : Option Addr} {sl_parse_log : Array (Option Value)}
    {f__law_box : Addr} {oc__law_box kV__law_box dc__law_box pm__law_box cd__law_box ct__law_box : Value} {od__law_box an__law_box : Option Addr} {sl__law_box : Array (Option Value)}
    {f__law_draw : Addr} {oc__law_draw kV__law_draw dc__law_draw pm__law_draw cd__law_draw ct__law_draw : Value} {od__law_draw an__law_draw : Option Addr} {sl__law_draw : Array (Option Value)}
    {f__law_is : Addr} {oc__law_is kV__law_is dc__law_is pm__law_is cd__law_is ct__law_is : Value} {od__law_is an__law_is : Option Addr} {sl__law_is : Array (Option Value)}
    {f__law_integers : Addr} {oc__law_integers kV__law_integers dc__law_integers pm__law_integers cd__law_integers ct__law_integers : Value} {od__law_integers an__law_integers : Option Addr} {sl__law_integers : Array (Option Value)}
    {f__law_node : Addr} {oc__law_node kV__law_node dc__law_node pm__law_node cd__law_node ct__law_node : Value} {od__law_node an__law_node : Option Addr} {sl__law_node : Array (Option Value)}
    {f__law_log : Addr} {oc__law_log kV__law_log dc__law_log pm__law_log cd__law_log ct__law_log : Value} {od__law_log an__law_log : Option Addr} {sl__law_log : Array (Option Value)}
    {f__law_word : Addr} {oc__law_word kV__law_word dc__law_word pm__law_word cd__law_word ct__law_word : Value} {od__law_word an__law_word : Option Addr} {sl__law_word : Array (Option Value)}
    {f__law_sign : Addr} {oc__law_sign kV__law_sign dc__law_sign pm__law_sign cd__law_sign ct__law_sign : Value} {od__law_sign an__law_sign : Option Addr} {sl__law_sign : Array (Option Value)}
    {f__law_odd_word : Addr} {oc__law_odd_word kV__law_odd_word dc__law_odd_word pm__law_odd_word cd__law_odd_word ct__law_odd_word : Value} {od__law_odd_word an__law_odd_word : Option Addr} {sl__law_odd_word : Array (Option Value)}
    {f__law_spoilt : Addr} {oc__law_spoilt kV__law_spoilt dc__law_spoilt pm__law_spoilt cd__law_spoilt ct__law_spoilt : Value} {od__law_spoilt an__law_spoilt : Option Addr} {sl__law_spoilt : Array (Option Value)}
    {f__law_number : Addr} {oc__law_number kV__law_number dc__law_number pm__law_number cd__law_number ct__law_number : Value} {od__law_number an__law_number : Option Addr} {sl__law_number : Array (Option Value)}
    {f__law_read : Addr} {oc__law_read kV__law_read dc__law_read pm__law_read cd__law_read ct__law_read : Value} {od__law_read an__law_read : Option Addr} {sl__law_read : Array (Option Value)}
    {f__law_parse_right : Addr} {oc__law_parse_right kV__law_parse_right dc__law_parse_right pm__law_parse_right cd__law_parse_right ct__law_parse_right : Value} {od__law_parse_right an__law_parse_right : Option Addr} {sl__law_parse_right : Array (Option Value)}
    {f__law_format_right : Addr} {oc__law_format_right kV__law_format_right dc__law_format_right pm__law_format_right cd__law_format_right ct__law_format_right : Value} {od__law_format_right an__law_format_right : Option Addr} {sl__law_format_right : Array (Option Value)}
    {f__law_zero_refused : Addr} {oc__law_zero_refused kV__law_zero_refused dc__law_zero_refused pm__law_zero_refused cd__law_zero_refused ct__law_zero_refused : Value} {od__law_zero_refused an__law_zero_refused : Option Addr} {sl__law_zero_refused : Array (Option Value)}
    {f_law : Addr} {oc_law kV_law dc_law pm_law cd_law ct_law : Value} {od_law an_law : Option Addr} {sl_law : Array (Option Value)}
    {LinkError : Addr}
    {LogError : Addr}
    {BadOperation : Addr} {i_BadOperation : Addr}
    {Illegal : Addr} {i_Illegal : Addr}
    {Refused : Addr} {i_Refused : Addr}
    {BadText : Addr} {i_BadText : Addr}
    {BadDump : Addr} {i_BadDump : Addr}
    {t_MOST_DIGITS : Tok}
    (a_LinkError : PySem.W.nsIn K mainGlobals "LinkError" = some (some (.ref LinkError)))
    (a_LogError : PySem.W.nsIn K mainGlobals "LogError" = some (some (.ref LogError)))
    (a_BadOperation : PySem.W.nsIn K mainGlobals "BadOperation" = some (some (.ref BadOperation)))
    (a_Illegal : PySem.W.nsIn K mainGlobals "Illegal" = some (some (.ref Illegal)))
    (a_Refused : PySem.W.nsIn K mainGlobals "Refused" = some (some (.ref Refused)))
    (a_BadText : PySem.W.nsIn K mainGlobals "BadText" = some (some (.ref BadText)))
    (a_BadDump : PySem.W.nsIn K mainGlobals "BadDump" = some (some (.ref BadDump)))
    (d_LinkError : DC K LinkError)
    (d_LogError : DC K LogError)
    (d_BadOperation : DC K BadOperation)
    (d_Illegal : DC K Illegal)
    (d_Refused : DC K Refused)
    (d_BadText : DC K BadText)
    (d_BadDump : DC K BadDump)
    (x_BadOperation : LkX.ExcTxt P K BadOperation i_BadOperation ["operation", "index"])
    (e_BadOperation : ExcC K BadOperation ∧ XfC K BadOperation)
    (s_BadOperation_LinkError : PySem.W.subIn K (.ref BadOperation) (.ref LinkError) = some true)
    (s_BadOperation_LogError : PySem.W.subIn K (.ref BadOperation) (.ref LogError) = some true)
    (s_BadOperation_BadOperation : PySem.W.subIn K (.ref BadOperation) (.ref BadOperation) = some true)
    (s_BadOperation_Illegal : PySem.W.subIn K (.ref BadOperation) (.ref Illegal) = some false)
    (s_BadOperation_Refused : PySem.W.subIn K (.ref BadOperation) (.ref Refused) = some false)
    (s_BadOperation_BadText : PySem.W.subIn K (.ref BadOperation) (.ref BadText) = some false)
    (s_BadOperation_BadDump : PySem.W.subIn K (.ref BadOperation) (.ref BadDump) = some false)
    (x_Illegal : LkX.ExcTxt P K Illegal i_Illegal ["operation", "index"])
    (e_Illegal : ExcC K Illegal ∧ XfC K Illegal)
    (s_Illegal_LinkError : PySem.W.subIn K (.ref Illegal) (.ref LinkError) = some true)
    (s_Illegal_LogError : PySem.W.subIn K (.ref Illegal) (.ref LogError) = some true)
    (s_Illegal_BadOperation : PySem.W.subIn K (.ref Illegal) (.ref BadOperation) = some false)
    (s_Illegal_Illegal : PySem.W.subIn K (.ref Illegal) (.ref Illegal) = some true)
    (s_Illegal_Refused : PySem.W.subIn K (.ref Illegal) (.ref Refused) = some false)
    (s_Illegal_BadText : PySem.W.subIn K (.ref Illegal) (.ref BadText) = some false)
    (s_Illegal_BadDump : PySem.W.subIn K (.ref Illegal) (.ref BadDump) = some false)
    (x_Refused : LkX.ExcTxt P K Refused i_Refused ["operation", "index", "refusing"])
    (e_Refused : ExcC K Refused ∧ XfC K Refused)
    (s_Refused_LinkError : PySem.W.subIn K (.ref Refused) (.ref LinkError) = some true)
    (s_Refused_LogError : PySem.W.subIn K (.ref Refused) (.ref LogError) = some true)
    (s_Refused_BadOperation : PySem.W.subIn K (.ref Refused) (.ref BadOperation) = some false)
    (s_Refused_Illegal : PySem.W.subIn K (.ref Refused) (.ref Illegal) = some false)
    (s_Refused_Refused : PySem.W.subIn K (.ref Refused) (.ref Refused) = some true)
    (s_Refused_BadText : PySem.W.subIn K (.ref Refused) (.ref BadText) = some false)
    (s_Refused_BadDump : PySem.W.subIn K (.ref Refused) (.ref BadDump) = some false)
    (x_BadText : LkX.ExcTxt P K BadText i_BadText ["place"])
    (e_BadText : ExcC K BadText ∧ XfC K BadText)
    (s_BadText_LinkError : PySem.W.subIn K (.ref BadText) (.ref LinkError) = some true)
    (s_BadText_LogError : PySem.W.subIn K (.ref BadText) (.ref LogError) = some false)
    (s_BadText_BadOperation : PySem.W.subIn K (.ref BadText) (.ref BadOperation) = some false)
    (s_BadText_Illegal : PySem.W.subIn K (.ref BadText) (.ref Illegal) = some false)
    (s_BadText_Refused : PySem.W.subIn K (.ref BadText) (.ref Refused) = some false)
    (s_BadText_BadText : PySem.W.subIn K (.ref BadText) (.ref BadText) = some true)
    (s_BadText_BadDump : PySem.W.subIn K (.ref BadText) (.ref BadDump) = some false)
    (x_BadDump : LkX.ExcTxt P K BadDump i_BadDump ["part"])
    (e_BadDump : ExcC K BadDump ∧ XfC K BadDump)
    (s_BadDump_LinkError : PySem.W.subIn K (.ref BadDump) (.ref LinkError) = some true)
    (s_BadDump_LogError : PySem.W.subIn K (.ref BadDump) (.ref LogError) = some false)
    (s_BadDump_BadOperation : PySem.W.subIn K (.ref BadDump) (.ref BadOperation) = some false)
    (s_BadDump_Illegal : PySem.W.subIn K (.ref BadDump) (.ref Illegal) = some false)
    (s_BadDump_Refused : PySem.W.subIn K (.ref BadDump) (.ref Refused) = some false)
    (s_BadDump_BadText : PySem.W.subIn K (.ref BadDump) (.ref BadText) = some false)
    (s_BadDump_BadDump : PySem.W.subIn K (.ref BadDump) (.ref BadDump) = some true)
    (a_is_number : PySem.W.nsIn K mainGlobals "is_number" = some (some (.ref f_is_number))) (l_is_number : K.lookup f_is_number = some ⟨oc_is_number, od_is_number, .func (PySem.W.fnOf "is_number" "is_number" (defArgs s_is_number) (defBody s_is_number) (defScope s_is_number) .none kV_is_number dc_is_number pm_is_number an_is_number cd_is_number ct_is_number), sl_is_number⟩) (c_is_number : PySem.W.codeIn K cd_is_number "is_number" = true) (k_is_number : PySem.W.keepIn K (.ref f_is_number) = true)
    (a_format_log : PySem.W.nsIn K mainGlobals "format_log" = some (some (.ref f_format_log))) (l_format_log : K.lookup f_format_log = some ⟨oc_format_log, od_format_log, .func (PySem.W.fnOf "format_log" "format_log" (defArgs s_format_log) (defBody s_format_log) (defScope s_format_log) .none kV_format_log dc_format_log pm_format_log an_format_log cd_format_log ct_format_log), sl_format_log⟩) (c_format_log : PySem.W.codeIn K cd_format_log "format_log" = true) (k_format_log : PySem.W.keepIn K (.ref f_format_log) = true)
    (a_parse_log : PySem.W.nsIn K mainGlobals "parse_log" = some (some (.ref f_parse_log))) (l_parse_log : K.lookup f_parse_log = some ⟨oc_parse_log, od_parse_log, .func (PySem.W.fnOf "parse_log" "parse_log" (defArgs s_parse_log) (defBody s_parse_log) (defScope s_parse_log) .none kV_parse_log dc_parse_log pm_parse_log an_parse_log cd_parse_log ct_parse_log), sl_parse_log⟩) (c_parse_log : PySem.W.codeIn K cd_parse_log "parse_log" = true) (k_parse_log : PySem.W.keepIn K (.ref f_parse_log) = true)
    (a__law_box : PySem.W.nsIn K mainGlobals "_law_box" = some (some (.ref f__law_box))) (l__law_box : K.lookup f__law_box = some ⟨oc__law_box, od__law_box, .func (PySem.W.fnOf "_law_box" "_law_box" (defArgs s__law_box) (defBody s__law_box) (defScope s__law_box) .none kV__law_box dc__law_box pm__law_box an__law_box cd__law_box ct__law_box), sl__law_box⟩) (c__law_box : PySem.W.codeIn K cd__law_box "_law_box" = true) (k__law_box : PySem.W.keepIn K (.ref f__law_box) = true)
    (a__law_draw : PySem.W.nsIn K mainGlobals "_law_draw" = some (some (.ref f__law_draw))) (l__law_draw : K.lookup f__law_draw = some ⟨oc__law_draw, od__law_draw, .func (PySem.W.fnOf "_law_draw" "_law_draw" (defArgs s__law_draw) (defBody s__law_draw) (defScope s__law_draw) .none kV__law_draw dc__law_draw pm__law_draw an__law_draw cd__law_draw ct__law_draw), sl__law_draw⟩) (c__law_draw : PySem.W.codeIn K cd__law_draw "_law_draw" = true) (k__law_draw : PySem.W.keepIn K (.ref f__law_draw) = true)
    (a__law_is : PySem.W.nsIn K mainGlobals "_law_is" = some (some (.ref f__law_is))) (l__law_is : K.lookup f__law_is = some ⟨oc__law_is, od__law_is, .func (PySem.W.fnOf "_law_is" "_law_is" (defArgs s__law_is) (defBody s__law_is) (defScope s__law_is) .none kV__law_is dc__law_is pm__law_is an__law_is cd__law_is ct__law_is), sl__law_is⟩) (c__law_is : PySem.W.codeIn K cd__law_is "_law_is" = true) (k__law_is : PySem.W.keepIn K (.ref f__law_is) = true)
    (a__law_integers : PySem.W.nsIn K mainGlobals "_law_integers" = some (some (.ref f__law_integers))) (l__law_integers : K.lookup f__law_integers = some ⟨oc__law_integers, od__law_integers, .func (PySem.W.fnOf "_law_integers" "_law_integers" (defArgs s__law_integers) (defBody s__law_integers) (defScope s__law_integers) .none kV__law_integers dc__law_integers pm__law_integers an__law_integers cd__law_integers ct__law_integers), sl__law_integers⟩) (c__law_integers : PySem.W.codeIn K cd__law_integers "_law_integers" = true) (k__law_integers : PySem.W.keepIn K (.ref f__law_integers) = true)
    (a__law_node : PySem.W.nsIn K mainGlobals "_law_node" = some (some (.ref f__law_node))) (l__law_node : K.lookup f__law_node = some ⟨oc__law_node, od__law_node, .func (PySem.W.fnOf "_law_node" "_law_node" (defArgs s__law_node) (defBody s__law_node) (defScope s__law_node) .none kV__law_node dc__law_node pm__law_node an__law_node cd__law_node ct__law_node), sl__law_node⟩) (c__law_node : PySem.W.codeIn K cd__law_node "_law_node" = true) (k__law_node : PySem.W.keepIn K (.ref f__law_node) = true)
    (a__law_log : PySem.W.nsIn K mainGlobals "_law_log" = some (some (.ref f__law_log))) (l__law_log : K.lookup f__law_log = some ⟨oc__law_log, od__law_log, .func (PySem.W.fnOf "_law_log" "_law_log" (defArgs s__law_log) (defBody s__law_log) (defScope s__law_log) .none kV__law_log dc__law_log pm__law_log an__law_log cd__law_log ct__law_log), sl__law_log⟩) (c__law_log : PySem.W.codeIn K cd__law_log "_law_log" = true) (k__law_log : PySem.W.keepIn K (.ref f__law_log) = true)
    (a__law_word : PySem.W.nsIn K mainGlobals "_law_word" = some (some (.ref f__law_word))) (l__law_word : K.lookup f__law_word = some ⟨oc__law_word, od__law_word, .func (PySem.W.fnOf "_law_word" "_law_word" (defArgs s__law_word) (defBody s__law_word) (defScope s__law_word) .none kV__law_word dc__law_word pm__law_word an__law_word cd__law_word ct__law_word), sl__law_word⟩) (c__law_word : PySem.W.codeIn K cd__law_word "_law_word" = true) (k__law_word : PySem.W.keepIn K (.ref f__law_word) = true)
    (a__law_sign : PySem.W.nsIn K mainGlobals "_law_sign" = some (some (.ref f__law_sign))) (l__law_sign : K.lookup f__law_sign = some ⟨oc__law_sign, od__law_sign, .func (PySem.W.fnOf "_law_sign" "_law_sign" (defArgs s__law_sign) (defBody s__law_sign) (defScope s__law_sign) .none kV__law_sign dc__law_sign pm__law_sign an__law_sign cd__law_sign ct__law_sign), sl__law_sign⟩) (c__law_sign : PySem.W.codeIn K cd__law_sign "_law_sign" = true) (k__law_sign : PySem.W.keepIn K (.ref f__law_sign) = true)
    (a__law_odd_word : PySem.W.nsIn K mainGlobals "_law_odd_word" = some (some (.ref f__law_odd_word))) (l__law_odd_word : K.lookup f__law_odd_word = some ⟨oc__law_odd_word, od__law_odd_word, .func (PySem.W.fnOf "_law_odd_word" "_law_odd_word" (defArgs s__law_odd_word) (defBody s__law_odd_word) (defScope s__law_odd_word) .none kV__law_odd_word dc__law_odd_word pm__law_odd_word an__law_odd_word cd__law_odd_word ct__law_odd_word), sl__law_odd_word⟩) (c__law_odd_word : PySem.W.codeIn K cd__law_odd_word "_law_odd_word" = true) (k__law_odd_word : PySem.W.keepIn K (.ref f__law_odd_word) = true)
    (a__law_spoilt : PySem.W.nsIn K mainGlobals "_law_spoilt" = some (some (.ref f__law_spoilt))) (l__law_spoilt : K.lookup f__law_spoilt = some ⟨oc__law_spoilt, od__law_spoilt, .func (PySem.W.fnOf "_law_spoilt" "_law_spoilt" (defArgs s__law_spoilt) (defBody s__law_spoilt) (defScope s__law_spoilt) .none kV__law_spoilt dc__law_spoilt pm__law_spoilt an__law_spoilt cd__law_spoilt ct__law_spoilt), sl__law_spoilt⟩) (c__law_spoilt : PySem.W.codeIn K cd__law_spoilt "_law_spoilt" = true) (k__law_spoilt : PySem.W.keepIn K (.ref f__law_spoilt) = true)
    (a__law_number : PySem.W.nsIn K mainGlobals "_law_number" = some (some (.ref f__law_number))) (l__law_number : K.lookup f__law_number = some ⟨oc__law_number, od__law_number, .func (PySem.W.fnOf "_law_number" "_law_number" (defArgs s__law_number) (defBody s__law_number) (defScope s__law_number) .none kV__law_number dc__law_number pm__law_number an__law_number cd__law_number ct__law_number), sl__law_number⟩) (c__law_number : PySem.W.codeIn K cd__law_number "_law_number" = true) (k__law_number : PySem.W.keepIn K (.ref f__law_number) = true)
    (a__law_read : PySem.W.nsIn K mainGlobals "_law_read" = some (some (.ref f__law_read))) (l__law_read : K.lookup f__law_read = some ⟨oc__law_read, od__law_read, .func (PySem.W.fnOf "_law_read" "_law_read" (defArgs s__law_read) (defBody s__law_read) (defScope s__law_read) .none kV__law_read dc__law_read pm__law_read an__law_read cd__law_read ct__law_read), sl__law_read⟩) (c__law_read : PySem.W.codeIn K cd__law_read "_law_read" = true) (k__law_read : PySem.W.keepIn K (.ref f__law_read) = true)
    (a__law_parse_right : PySem.W.nsIn K mainGlobals "_law_parse_right" = some (some (.ref f__law_parse_right))) (l__law_parse_right : K.lookup f__law_parse_right = some ⟨oc__law_parse_right, od__law_parse_right, .func (PySem.W.fnOf "_law_parse_right" "_law_parse_right" (defArgs s__law_parse_right) (defBody s__law_parse_right) (defScope s__law_parse_right) .none kV__law_parse_right dc__law_parse_right pm__law_parse_right an__law_parse_right cd__law_parse_right ct__law_parse_right), sl__law_parse_right⟩) (c__law_parse_right : PySem.W.codeIn K cd__law_parse_right "_law_parse_right" = true) (k__law_parse_right : PySem.W.keepIn K (.ref f__law_parse_right) = true)
    (a__law_format_right : PySem.W.nsIn K mainGlobals "_law_format_right" = some (some (.ref f__law_format_right))) (l__law_format_right : K.lookup f__law_format_right = some ⟨oc__law_format_right, od__law_format_right, .func (PySem.W.fnOf "_law_format_right" "_law_format_right" (defArgs s__law_format_right) (defBody s__law_format_right) (defScope s__law_format_right) .none kV__law_format_right dc__law_format_right pm__law_format_right an__law_format_right cd__law_format_right ct__law_format_right), sl__law_format_right⟩) (c__law_format_right : PySem.W.codeIn K cd__law_format_right "_law_format_right" = true) (k__law_format_right : PySem.W.keepIn K (.ref f__law_format_right) = true)
    (a__law_zero_refused : PySem.W.nsIn K mainGlobals "_law_zero_refused" = some (some (.ref f__law_zero_refused))) (l__law_zero_refused : K.lookup f__law_zero_refused = some ⟨oc__law_zero_refused, od__law_zero_refused, .func (PySem.W.fnOf "_law_zero_refused" "_law_zero_refused" (defArgs s__law_zero_refused) (defBody s__law_zero_refused) (defScope s__law_zero_refused) .none kV__law_zero_refused dc__law_zero_refused pm__law_zero_refused an__law_zero_refused cd__law_zero_refused ct__law_zero_refused), sl__law_zero_refused⟩) (c__law_zero_refused : PySem.W.codeIn K cd__law_zero_refused "_law_zero_refused" = true) (k__law_zero_refused : PySem.W.keepIn K (.ref f__law_zero_refused) = true)
    (a_law : PySem.W.nsIn K mainGlobals "law" = some (some (.ref f_law))) (l_law : K.lookup f_law = some ⟨oc_law, od_law, .func (PySem.W.fnOf "law" "law" (defArgs s_law) (defBody s_law) (defScope s_law) .none kV_law dc_law pm_law an_law cd_law ct_law), sl_law⟩) (c_law : PySem.W.codeIn K cd_law "law" = true) (k_law : PySem.W.keepIn K (.ref f_law) = true)
    (b_ValueError : PySem.W.nsIn K mainGlobals "ValueError" = some none)
    (b_enumerate : PySem.W.nsIn K mainGlobals "enumerate" = some none)
    (b_range : PySem.W.nsIn K mainGlobals "range" = some none)
    (b_int : PySem.W.nsIn K mainGlobals "int" = some none)
    (b_list : PySem.W.nsIn K mainGlobals "list" = some none)
    (b_isinstance : PySem.W.nsIn K mainGlobals "isinstance" = some none)
    (b_len : PySem.W.nsIn K mainGlobals "len" = some none)
    (b_str : PySem.W.nsIn K mainGlobals "str" = some none)
    (b_bool : PySem.W.nsIn K mainGlobals "bool" = some none)
    (b_super : PySem.W.nsIn K mainGlobals "super" = some none)
    (k_MOST_DIGITS : PySem.W.nsIn K mainGlobals "MOST_DIGITS" = some (some (.int 9 t_MOST_DIGITS)))
    : ∃ fd : FuncData, (∀ (s : Shared) (v : Value), BindsTo s fd ⟨[v], []⟩ [("_law_script", v)]) ∧ ∀ base : Heap, K.In base → base.Ns mainGlobals mg → FnOk P w K mg base (L2N.CX P w) 5 fa fd ["_law_script"] (spL K) := by
  have e := hfa.symm.trans (PySem.W.mg_of X G a_law)
  cases e
  have m_is_number := nm_mk (st := s_is_number) X G a_is_number l_is_number c_is_number k_is_number
  have m_format_log := nm_mk (st := s_format_log) X G a_format_log l_format_log c_format_log k_format_log
  have m_parse_log := nm_mk (st := s_parse_log) X G a_parse_log l_parse_log c_parse_log k_parse_log
  have m__law_box := nm_mk (st := s__law_box) X G a__law_box l__law_box c__law_box k__law_box
  have m__law_draw := nm_mk (st := s__law_draw) X G a__law_draw l__law_draw c__law_draw k__law_draw
  have m__law_is := nm_mk (st := s__law_is) X G a__law_is l__law_is c__law_is k__law_is
  have m__law_integers := nm_mk (st := s__law_integers) X G a__law_integers l__law_integers c__law_integers k__law_integers
  have m__law_node := nm_mk (st := s__law_node) X G a__law_node l__law_node c__law_node k__law_node
  have m__law_log := nm_mk (st := s__law_log) X G a__law_log l__law_log c__law_log k__law_log
  have m__law_word := nm_mk (st := s__law_word) X G a__law_word l__law_word c__law_word k__law_word
  have m__law_sign := nm_mk (st := s__law_sign) X G a__law_sign l__law_sign c__law_sign k__law_sign
  have m__law_odd_word := nm_mk (st := s__law_odd_word) X G a__law_odd_word l__law_odd_word c__law_odd_word k__law_odd_word
  have m__law_spoilt := nm_mk (st := s__law_spoilt) X G a__law_spoilt l__law_spoilt c__law_spoilt k__law_spoilt
  have m__law_number := nm_mk (st := s__law_number) X G a__law_number l__law_number c__law_number k__law_number
  have m__law_read := nm_mk (st := s__law_read) X G a__law_read l__law_read c__law_read k__law_read
  have m__law_parse_right := nm_mk (st := s__law_parse_right) X G a__law_parse_right l__law_parse_right c__law_parse_right k__law_parse_right
  have m__law_format_right := nm_mk (st := s__law_format_right) X G a__law_format_right l__law_format_right c__law_format_right k__law_format_right
  have m__law_zero_refused := nm_mk (st := s__law_zero_refused) X G a__law_zero_refused l__law_zero_refused c__law_zero_refused k__law_zero_refused
  have m_law := nm_mk (st := s_law) X G a_law l_law c_law k_law
  have T : Txt P K mg ⟨f_is_number, f_format_log, f_parse_log, f__law_box, f__law_draw, f__law_is, f__law_integers, f__law_node, f__law_log, f__law_word, f__law_sign, f__law_odd_word, f__law_spoilt, f__law_number, f__law_read, f__law_parse_right, f__law_format_right, f__law_zero_refused, fa, LinkError, LogError, BadOperation, i_BadOperation, Illegal, i_Illegal, Refused, i_Refused, BadText, i_BadText, BadDump, i_BadDump⟩ :=
    { n_is_number := m_is_number.1,
      F_is_number := ⟨_, m_is_number.2, Fun.binds (ps := ["word"]) m_is_number.2 fun _ _ _ _ _ _ us hl => match us, hl with | [_], _ => rfl⟩,
      n_format_log := m_format_log.1,
      F_format_log := ⟨_, m_format_log.2, Fun.binds (ps := ["log"]) m_format_log.2 fun _ _ _ _ _ _ us hl => match us, hl with | [_], _ => rfl⟩,
      n_parse_log := m_parse_log.1,
      F_parse_log := ⟨_, m_parse_log.2, Fun.binds (ps := ["text"]) m_parse_log.2 fun _ _ _ _ _ _ us hl => match us, hl with | [_], _ => rfl⟩,
      n__law_box := m__law_box.1,
      F__law_box := ⟨_, m__law_box.2, Fun.binds (ps := ["_law_script"]) m__law_box.2 fun _ _ _ _ _ _ us hl => match us, hl with | [_], _ => rfl⟩,
      n__law_draw := m__law_draw.1,
      F__law_draw := ⟨_, m__law_draw.2, Fun.binds (ps := ["_law_box_here", "_law_many"]) m__law_draw.2 fun _ _ _ _ _ _ us hl => match us, hl with | [_, _], _ => rfl⟩,
      n__law_is := m__law_is.1,
      F__law_is := ⟨_, m__law_is.2, Fun.binds (ps := ["_law_told", "_law_due"]) m__law_is.2 fun _ _ _ _ _ _ us hl => match us, hl with | [_, _], _ => rfl⟩,
      n__law_integers := m__law_integers.1,
      F__law_integers := ⟨_, m__law_integers.2, Fun.binds (ps := ["_law_told", "_law_due"]) m__law_integers.2 fun _ _ _ _ _ _ us hl => match us, hl with | [_, _], _ => rfl⟩,
      n__law_node := m__law_node.1,
      F__law_node := ⟨_, m__law_node.2, Fun.binds (ps := ["_law_box_here"]) m__law_node.2 fun _ _ _ _ _ _ us hl => match us, hl with | [_], _ => rfl⟩,
      n__law_log := m__law_log.1,
      F__law_log := ⟨_, m__law_log.2, Fun.binds (ps := ["_law_box_here"]) m__law_log.2 fun _ _ _ _ _ _ us hl => match us, hl with | [_], _ => rfl⟩,
      n__law_word := m__law_word.1,
      F__law_word := ⟨_, m__law_word.2, Fun.binds (ps := ["_law_operation"]) m__law_word.2 fun _ _ _ _ _ _ us hl => match us, hl with | [_], _ => rfl⟩,
      n__law_sign := m__law_sign.1,
      F__law_sign := ⟨_, m__law_sign.2, Fun.binds (ps := ["_law_box_here"]) m__law_sign.2 fun _ _ _ _ _ _ us hl => match us, hl with | [_], _ => rfl⟩,
      n__law_odd_word := m__law_odd_word.1,
      F__law_odd_word := ⟨_, m__law_odd_word.2, Fun.binds (ps := ["_law_box_here", "_law_word_here"]) m__law_odd_word.2 fun _ _ _ _ _ _ us hl => match us, hl with | [_, _], _ => rfl⟩,
      n__law_spoilt := m__law_spoilt.1,
      F__law_spoilt := ⟨_, m__law_spoilt.2, Fun.binds (ps := ["_law_box_here", "_law_text"]) m__law_spoilt.2 fun _ _ _ _ _ _ us hl => match us, hl with | [_, _], _ => rfl⟩,
      n__law_number := m__law_number.1,
      F__law_number := ⟨_, m__law_number.2, Fun.binds (ps := ["_law_digits"]) m__law_number.2 fun _ _ _ _ _ _ us hl => match us, hl with | [_], _ => rfl⟩,
      n__law_read := m__law_read.1,
      F__law_read := ⟨_, m__law_read.2, Fun.binds (ps := ["_law_text"]) m__law_read.2 fun _ _ _ _ _ _ us hl => match us, hl with | [_], _ => rfl⟩,
      n__law_parse_right := m__law_parse_right.1,
      F__law_parse_right := ⟨_, m__law_parse_right.2, Fun.binds (ps := ["_law_text", "_law_due"]) m__law_parse_right.2 fun _ _ _ _ _ _ us hl => match us, hl with | [_, _], _ => rfl⟩,
      n__law_format_right := m__law_format_right.1,
      F__law_format_right := ⟨_, m__law_format_right.2, Fun.binds (ps := ["_law_log_here", "_law_text"]) m__law_format_right.2 fun _ _ _ _ _ _ us hl => match us, hl with | [_, _], _ => rfl⟩,
      n__law_zero_refused := m__law_zero_refused.1,
      F__law_zero_refused := ⟨_, m__law_zero_refused.2, Fun.binds (ps := ["_law_log_here", "_law_place", "_law_more"]) m__law_zero_refused.2 fun _ _ _ _ _ _ us hl => match us, hl with | [_, _, _], _ => rfl⟩,
      n_law := m_law.1,
      F_law := ⟨_, m_law.2, Fun.binds (ps := ["_law_script"]) m_law.2 fun _ _ _ _ _ _ us hl => match us, hl with | [_], _ => rfl⟩,
      c_LinkError := PySem.W.mg_of X G a_LinkError,
      c_LogError := PySem.W.mg_of X G a_LogError,
      c_BadOperation := PySem.W.mg_of X G a_BadOperation,
      x_BadOperation := x_BadOperation,
      e_BadOperation := e_BadOperation,
      c_Illegal := PySem.W.mg_of X G a_Illegal,
      x_Illegal := x_Illegal,
      e_Illegal := e_Illegal,
      c_Refused := PySem.W.mg_of X G a_Refused,
      x_Refused := x_Refused,
      e_Refused := e_Refused,
      c_BadText := PySem.W.mg_of X G a_BadText,
      x_BadText := x_BadText,
      e_BadText := e_BadText,
      c_BadDump := PySem.W.mg_of X G a_BadDump,
      x_BadDump := x_BadDump,
      e_BadDump := e_BadDump,
      t_BadOperation_LinkError := kit_mk d_LinkError s_BadOperation_BadOperation s_BadOperation_LinkError,
      t_BadOperation_LogError := kit_mk d_LogError s_BadOperation_BadOperation s_BadOperation_LogError,
      t_BadOperation_BadOperation := kit_mk d_BadOperation s_BadOperation_BadOperation s_BadOperation_BadOperation,
      t_BadOperation_Illegal := kit_mk d_Illegal s_BadOperation_BadOperation s_BadOperation_Illegal,
      t_BadOperation_Refused := kit_mk d_Refused s_BadOperation_BadOperation s_BadOperation_Refused,
      t_BadOperation_BadText := kit_mk d_BadText s_BadOperation_BadOperation s_BadOperation_BadText,
      t_BadOperation_BadDump := kit_mk d_BadDump s_BadOperation_BadOperation s_BadOperation_BadDump,
      v_BadOperation := kit_val x_BadOperation.vE,
      t_Illegal_LinkError := kit_mk d_LinkError s_Illegal_Illegal s_Illegal_LinkError,
      t_Illegal_LogError := kit_mk d_LogError s_Illegal_Illegal s_Illegal_LogError,
      t_Illegal_BadOperation := kit_mk d_BadOperation s_Illegal_Illegal s_Illegal_BadOperation,
      t_Illegal_Illegal := kit_mk d_Illegal s_Illegal_Illegal s_Illegal_Illegal,
      t_Illegal_Refused := kit_mk d_Refused s_Illegal_Illegal s_Illegal_Refused,
      t_Illegal_BadText := kit_mk d_BadText s_Illegal_Illegal s_Illegal_BadText,
      t_Illegal_BadDump := kit_mk d_BadDump s_Illegal_Illegal s_Illegal_BadDump,
      v_Illegal := kit_val x_Illegal.vE,
      t_Refused_LinkError := kit_mk d_LinkError s_Refused_Refused s_Refused_LinkError,
      t_Refused_LogError := kit_mk d_LogError s_Refused_Refused s_Refused_LogError,
      t_Refused_BadOperation := kit_mk d_BadOperation s_Refused_Refused s_Refused_BadOperation,
      t_Refused_Illegal := kit_mk d_Illegal s_Refused_Refused s_Refused_Illegal,
      t_Refused_Refused := kit_mk d_Refused s_Refused_Refused s_Refused_Refused,
      t_Refused_BadText := kit_mk d_BadText s_Refused_Refused s_Refused_BadText,
      t_Refused_BadDump := kit_mk d_BadDump s_Refused_Refused s_Refused_BadDump,
      v_Refused := kit_val x_Refused.vE,
      t_BadText_LinkError := kit_mk d_LinkError s_BadText_BadText s_BadText_LinkError,
      t_BadText_LogError := kit_mk d_LogError s_BadText_BadText s_BadText_LogError,
      t_BadText_BadOperation := kit_mk d_BadOperation s_BadText_BadText s_BadText_BadOperation,
      t_BadText_Illegal := kit_mk d_Illegal s_BadText_BadText s_BadText_Illegal,
      t_BadText_Refused := kit_mk d_Refused s_BadText_BadText s_BadText_Refused,
      t_BadText_BadText := kit_mk d_BadText s_BadText_BadText s_BadText_BadText,
      t_BadText_BadDump := kit_mk d_BadDump s_BadText_BadText s_BadText_BadDump,
      v_BadText := kit_val x_BadText.vE,
      t_BadDump_LinkError := kit_mk d_LinkError s_BadDump_BadDump s_BadDump_LinkError,
      t_BadDump_LogError := kit_mk d_LogError s_BadDump_BadDump s_BadDump_LogError,
      t_BadDump_BadOperation := kit_mk d_BadOperation s_BadDump_BadDump s_BadDump_BadOperation,
      t_BadDump_Illegal := kit_mk d_Illegal s_BadDump_BadDump s_BadDump_Illegal,
      t_BadDump_Refused := kit_mk d_Refused s_BadDump_BadDump s_BadDump_Refused,
      t_BadDump_BadText := kit_mk d_BadText s_BadDump_BadDump s_BadDump_BadText,
      t_BadDump_BadDump := kit_mk d_BadDump s_BadDump_BadDump s_BadDump_BadDump,
      v_BadDump := kit_val x_BadDump.vE,
      b_ValueError := PySem.W.mg_none_of X G b_ValueError,
      b_enumerate := PySem.W.mg_none_of X G b_enumerate,
      b_range := PySem.W.mg_none_of X G b_range,
      b_int := PySem.W.mg_none_of X G b_int,
      b_list := PySem.W.mg_none_of X G b_list,
      b_isinstance := PySem.W.mg_none_of X G b_isinstance,
      b_len := PySem.W.mg_none_of X G b_len,
      b_str := PySem.W.mg_none_of X G b_str,
      b_bool := PySem.W.mg_none_of X G b_bool,
      b_super := PySem.W.mg_none_of X G b_super,
      k_MOST_DIGITS := ⟨_, PySem.W.mg_of X G k_MOST_DIGITS⟩ }
  refine ⟨PySem.W.fnOf "law" "law" (defArgs s_law) (defBody s_law) (defScope s_law) .none kV_law dc_law pm_law an_law cd_law ct_law, fun s v => .of_eq rfl, fun base _ _ => ?_⟩
  have G__law_box := ok__law_box (w := w) (base := base) T
  have G__law_draw := ok__law_draw (w := w) (base := base) T
  have G__law_node := ok__law_node (w := w) (base := base) T G__law_draw
  have G__law_log := ok__law_log (w := w) (base := base) T G__law_draw G__law_node
  have G__law_word := ok__law_word (w := w) (base := base) T
  have G__law_odd_word := ok__law_odd_word (w := w) (base := base) T G__law_draw
  have G__law_sign := ok__law_sign (w := w) (base := base) T G__law_draw
  have G__law_spoilt := ok__law_spoilt (w := w) (base := base) T G__law_draw G__law_odd_word G__law_sign
  have G_format_log := ok_format_log (w := w) (base := base) T
  have G__law_is := ok__law_is (w := w) (base := base) T
  have G__law_integers := ok__law_integers (w := w) (base := base) T G__law_is
  have G__law_format_right := ok__law_format_right (w := w) (base := base) T G_format_log G__law_integers
  have G_is_number := ok_is_number (w := w) (base := base) T
  have G_parse_log := ok_parse_log (w := w) (base := base) T G_is_number
  have H__law_is := hk__law_is (w := w) (base := base) T
  have G__law_parse_right := ok__law_parse_right (w := w) (base := base) T G_parse_log G__law_integers H__law_is
  have H__law_integers := hk__law_integers (w := w) (base := base) T H__law_is
  have G__law_zero_refused := ok__law_zero_refused (w := w) (base := base) T G_format_log H__law_is H__law_integers
  have G__law_number := ok__law_number (w := w) (base := base) T
  have G__law_read := ok__law_read (w := w) (base := base) T G__law_number
  exact ok_law T m_law.2 G__law_box G__law_log G__law_word G__law_draw G__law_spoilt G__law_format_right G__law_parse_right G__law_zero_refused G__law_read
end Lk
open PySem PySem.W PySem.Calls PyProof.Rows
set_option maxRecDepth 100000 in
set_option maxHeartbeats 0 in
theorem PySem.Challenge.cw_latelink_k00_log_texts_holds : PySem.Challenge.rw_latelink_k00_log_texts.Holds := by
  w_on; o_law; k_head; (case hw => w_witness2)
  k_fill
  refine L2.walk_of (l := PySem.Challenge.rw_latelink_k00_log_texts) (n := 63) (k := 5) (x := "_law_script") (CX := fun w => L2N.CX PySem.Challenge.rw_latelink_k00_log_texts.prog w) (sp := fun w => Lk.spL _) rfl (by decide) rfl ⟨rfl, by decide, by decide⟩ (fun w h Y => PySem.W.kIn_of Y) ?F (fun w H a ns hl hO hS => Lk.spL_ok hl hS) Lk.noCX
  case F =>
    intro w mg fa h KX G hmg
    refine' Lk.all_mk KX G hmg ?a_LinkError ?a_LogError ?a_BadOperation ?a_Illegal ?a_Refused ?a_BadText ?a_BadDump ?d_LinkError ?d_LogError ?d_BadOperation ?d_Illegal ?d_Refused ?d_BadText ?d_BadDump ?x_BadOperation ?e_BadOperation ?s_BadOperation_LinkError ?s_BadOperation_LogError ?s_BadOperation_BadOperation ?s_BadOperation_Illegal ?s_BadOperation_Refused ?s_BadOperation_BadText ?s_BadOperation_BadDump ?x_Illegal ?e_Illegal ?s_Illegal_LinkError ?s_Illegal_LogError ?s_Illegal_BadOperation ?s_Illegal_Illegal ?s_Illegal_Refused ?s_Illegal_BadText ?s_Illegal_BadDump ?x_Refused ?e_Refused ?s_Refused_LinkError ?s_Refused_LogError ?s_Refused_BadOperation ?s_Refused_Illegal ?s_Refused_Refused ?s_Refused_BadText ?s_Refused_BadDump ?x_BadText ?e_BadText ?s_BadText_LinkError ?s_BadText_LogError ?s_BadText_BadOperation ?s_BadText_Illegal ?s_BadText_Refused ?s_BadText_BadText ?s_BadText_BadDump ?x_BadDump ?e_BadDump ?s_BadDump_LinkError ?s_BadDump_LogError ?s_BadDump_BadOperation ?s_BadDump_Illegal ?s_BadDump_Refused ?s_BadDump_BadText ?s_BadDump_BadDump ?a_is_number ?l_is_number ?c_is_number ?k_is_number ?a_format_log ?l_format_log ?c_format_log ?k_format_log ?a_parse_log ?l_parse_log ?c_parse_log ?k_parse_log ?a__law_box ?l__law_box ?c__law_box ?k__law_box ?a__law_draw ?l__law_draw ?c__law_draw ?k__law_draw ?a__law_is ?l__law_is ?c__law_is ?k__law_is ?a__law_integers ?l__law_integers ?c__law_integers ?k__law_integers ?a__law_node ?l__law_node ?c__law_node ?k__law_node ?a__law_log ?l__law_log ?c__law_log ?k__law_log ?a__law_word ?l__law_word ?c__law_word ?k__law_word ?a__law_sign ?l__law_sign ?c__law_sign ?k__law_sign ?a__law_odd_word ?l__law_odd_word ?c__law_odd_word ?k__law_odd_word ?a__law_spoilt ?l__law_spoilt ?c__law_spoilt ?k__law_spoilt ?a__law_number ?l__law_number ?c__law_number ?k__law_number ?a__law_read ?l__law_read ?c__law_read ?k__law_read ?a__law_parse_right ?l__law_parse_right ?c__law_parse_right ?k__law_parse_right ?a__law_format_right ?l__law_format_right ?c__law_format_right ?k__law_format_right ?a__law_zero_refused ?l__law_zero_refused ?c__law_zero_refused ?k__law_zero_refused ?a_law ?l_law ?c_law ?k_law ?b_ValueError ?b_enumerate ?b_range ?b_int ?b_list ?b_isinstance ?b_len ?b_str ?b_bool ?b_super ?k_MOST_DIGITS
    (case a_LinkError => k_is)
    (case a_LogError => k_is)
    (case a_BadOperation => k_is)
    (case a_Illegal => k_is)
    (case a_Refused => k_is)
    (case a_BadText => k_is)
    (case a_BadDump => k_is)
    (case d_LinkError => refine ⟨?_, ?_, ?_⟩ <;> k_is)
    (case d_LogError => refine ⟨?_, ?_, ?_⟩ <;> k_is)
    (case d_BadOperation => refine ⟨?_, ?_, ?_⟩ <;> k_is)
    (case d_Illegal => refine ⟨?_, ?_, ?_⟩ <;> k_is)
    (case d_Refused => refine ⟨?_, ?_, ?_⟩ <;> k_is)
    (case d_BadText => refine ⟨?_, ?_, ?_⟩ <;> k_is)
    (case d_BadDump => refine ⟨?_, ?_, ?_⟩ <;> k_is)
    case x_BadOperation =>
      refine' LkX.exc_mk (st := Lk.s_BadOperation___init__) (qual := "BadOperation.__init__") ?p1 ?p2 ?p3 ?p4 ?p5 ?p6 ?p7 ?p8 ?p9 ?q1 ?q2 ?q3 ?q4 ?q5 ?q6 ?q7 ?q8 ?r1 ?r2 ⟨_, _, _, _, _, _, _, _, _, rfl, rfl, (.cons (.cons .nil))⟩ rfl rfl rfl rfl rfl (by decide +kernel) (by decide +kernel) rfl rfl rfl (fun us hl => match us, hl with | [_, _, _], _ => rfl) (by decide +kernel) (by decide +kernel) (by decide)
      (case p1 => k_is)
      (case p2 => k_is)
      (case p3 => k_is)
      (case p4 => k_is)
      (case p5 => k_is)
      (case p6 => k_is)
      (case p7 => k_is)
      (case p8 => k_is)
      (case p9 => k_is)
      (case q1 => k_is)
      (case q2 => k_is)
      (case q3 => k_is)
      (case q4 => k_is)
      (case q5 => k_is)
      (case q6 => kernel_rfl)
      (case q7 => decide +kernel)
      (case q8 => refine Lk.all_in ?_; refine ⟨?_, ?_⟩; (· k_is); refine ⟨?_, ?_⟩; (· k_is); exact trivial)
      (case r1 => rfl)
      (case r2 => kernel_rfl)
    (case e_BadOperation => refine Lk.exc_ef ?_ ?_ ?_ ?_ ?_ ?_ ?_ ?_ <;> k_is)
    (case s_BadOperation_LinkError => k_is)
    (case s_BadOperation_LogError => k_is)
    (case s_BadOperation_BadOperation => k_is)
    (case s_BadOperation_Illegal => k_is)
    (case s_BadOperation_Refused => k_is)
    (case s_BadOperation_BadText => k_is)
    (case s_BadOperation_BadDump => k_is)
    case x_Illegal =>
      refine' LkX.exc_mk (st := Lk.s_Illegal___init__) (qual := "Illegal.__init__") ?p1 ?p2 ?p3 ?p4 ?p5 ?p6 ?p7 ?p8 ?p9 ?q1 ?q2 ?q3 ?q4 ?q5 ?q6 ?q7 ?q8 ?r1 ?r2 ⟨_, _, _, _, _, _, _, _, _, rfl, rfl, (.cons (.cons .nil))⟩ rfl rfl rfl rfl rfl (by decide +kernel) (by decide +kernel) rfl rfl rfl (fun us hl => match us, hl with | [_, _, _], _ => rfl) (by decide +kernel) (by decide +kernel) (by decide)
      (case p1 => k_is)
      (case p2 => k_is)
      (case p3 => k_is)
      (case p4 => k_is)
      (case p5 => k_is)
      (case p6 => k_is)
      (case p7 => k_is)
      (case p8 => k_is)
      (case p9 => k_is)
      (case q1 => k_is)
      (case q2 => k_is)
      (case q3 => k_is)
      (case q4 => k_is)
      (case q5 => k_is)
      (case q6 => kernel_rfl)
      (case q7 => decide +kernel)
      (case q8 => refine Lk.all_in ?_; refine ⟨?_, ?_⟩; (· k_is); refine ⟨?_, ?_⟩; (· k_is); exact trivial)
      (case r1 => rfl)
      (case r2 => kernel_rfl)
    (case e_Illegal => refine Lk.exc_ef ?_ ?_ ?_ ?_ ?_ ?_ ?_ ?_ <;> k_is)
    (case s_Illegal_LinkError => k_is)
    (case s_Illegal_LogError => k_is)
    (case s_Illegal_BadOperation => k_is)
    (case s_Illegal_Illegal => k_is)
    (case s_Illegal_Refused => k_is)
    (case s_Illegal_BadText => k_is)
    (case s_Illegal_BadDump => k_is)
    case x_Refused =>
      refine' LkX.exc_mk (st := Lk.s_Refused___init__) (qual := "Refused.__init__") ?p1 ?p2 ?p3 ?p4 ?p5 ?p6 ?p7 ?p8 ?p9 ?q1 ?q2 ?q3 ?q4 ?q5 ?q6 ?q7 ?q8 ?r1 ?r2 ⟨_, _, _, _, _, _, _, _, _, rfl, rfl, (.cons (.cons (.cons .nil)))⟩ rfl rfl rfl rfl rfl (by decide +kernel) (by decide +kernel) rfl rfl rfl (fun us hl => match us, hl with | [_, _, _, _], _ => rfl) (by decide +kernel) (by decide +kernel) (by decide)
      (case p1 => k_is)
      (case p2 => k_is)
      (case p3 => k_is)
      (case p4 => k_is)
      (case p5 => k_is)
      (case p6 => k_is)
      (case p7 => k_is)
      (case p8 => k_is)
      (case p9 => k_is)
      (case q1 => k_is)
      (case q2 => k_is)
      (case q3 => k_is)
      (case q4 => k_is)
      (case q5 => k_is)
      (case q6 => kernel_rfl)
      (case q7 => decide +kernel)
      (case q8 => refine Lk.all_in ?_; refine ⟨?_, ?_⟩; (· k_is); refine ⟨?_, ?_⟩; (· k_is); refine ⟨?_, ?_⟩; (· k_is); exact trivial)
      (case r1 => rfl)
      (case r2 => kernel_rfl)
    (case e_Refused => refine Lk.exc_ef ?_ ?_ ?_ ?_ ?_ ?_ ?_ ?_ <;> k_is)
    (case s_Refused_LinkError => k_is)
    (case s_Refused_LogError => k_is)
    (case s_Refused_BadOperation => k_is)
    (case s_Refused_Illegal => k_is)
    (case s_Refused_Refused => k_is)
    (case s_Refused_BadText => k_is)
    (case s_Refused_BadDump => k_is)
    case x_BadText =>
      refine' LkX.exc_mk (st := Lk.s_BadText___init__) (qual := "BadText.__init__") ?p1 ?p2 ?p3 ?p4 ?p5 ?p6 ?p7 ?p8 ?p9 ?q1 ?q2 ?q3 ?q4 ?q5 ?q6 ?q7 ?q8 ?r1 ?r2 ⟨_, _, _, _, _, _, _, _, _, rfl, rfl, (.cons .nil)⟩ rfl rfl rfl rfl rfl (by decide +kernel) (by decide +kernel) rfl rfl rfl (fun us hl => match us, hl with | [_, _], _ => rfl) (by decide +kernel) (by decide +kernel) (by decide)
      (case p1 => k_is)
      (case p2 => k_is)
      (case p3 => k_is)
      (case p4 => k_is)
      (case p5 => k_is)
      (case p6 => k_is)
      (case p7 => k_is)
      (case p8 => k_is)
      (case p9 => k_is)
      (case q1 => k_is)
      (case q2 => k_is)
      (case q3 => k_is)
      (case q4 => k_is)
      (case q5 => k_is)
      (case q6 => kernel_rfl)
      (case q7 => decide +kernel)
      (case q8 => refine Lk.all_in ?_; refine ⟨?_, ?_⟩; (· k_is); exact trivial)
      (case r1 => rfl)
      (case r2 => kernel_rfl)
    (case e_BadText => refine Lk.exc_ef ?_ ?_ ?_ ?_ ?_ ?_ ?_ ?_ <;> k_is)
    (case s_BadText_LinkError => k_is)
    (case s_BadText_LogError => k_is)
    (case s_BadText_BadOperation => k_is)
    (case s_BadText_Illegal => k_is)
    (case s_BadText_Refused => k_is)
    (case s_BadText_BadText => k_is)
    (case s_BadText_BadDump => k_is)
    case x_BadDump =>
      refine' LkX.exc_mk (st := Lk.s_BadDump___init__) (qual := "BadDump.__init__") ?p1 ?p2 ?p3 ?p4 ?p5 ?p6 ?p7 ?p8 ?p9 ?q1 ?q2 ?q3 ?q4 ?q5 ?q6 ?q7 ?q8 ?r1 ?r2 ⟨_, _, _, _, _, _, _, _, _, rfl, rfl, (.cons .nil)⟩ rfl rfl rfl rfl rfl (by decide +kernel) (by decide +kernel) rfl rfl rfl (fun us hl => match us, hl with | [_, _], _ => rfl) (by decide +kernel) (by decide +kernel) (by decide)
      (case p1 => k_is)
      (case p2 => k_is)
      (case p3 => k_is)
      (case p4 => k_is)
      (case p5 => k_is)
      (case p6 => k_is)
      (case p7 => k_is)
      (case p8 => k_is)
      (case p9 => k_is)
      (case q1 => k_is)
      (case q2 => k_is)
      (case q3 => k_is)
      (case q4 => k_is)
      (case q5 => k_is)
      (case q6 => kernel_rfl)
      (case q7 => decide +kernel)
      (case q8 => refine Lk.all_in ?_; refine ⟨?_, ?_⟩; (· k_is); exact trivial)
      (case r1 => rfl)
      (case r2 => kernel_rfl)
    (case e_BadDump => refine Lk.exc_ef ?_ ?_ ?_ ?_ ?_ ?_ ?_ ?_ <;> k_is)
    (case s_BadDump_LinkError => k_is)
    (case s_BadDump_LogError => k_is)
    (case s_BadDump_BadOperation => k_is)
    (case s_BadDump_Illegal => k_is)
    (case s_BadDump_Refused => k_is)
    (case s_BadDump_BadText => k_is)
    (case s_BadDump_BadDump => k_is)
    (case a_is_number => k_is)
    (case l_is_number => k_is)
    (case c_is_number => k_is)
    (case k_is_number => k_is)
    (case a_format_log => k_is)
    (case l_format_log => k_is)
    (case c_format_log => k_is)
    (case k_format_log => k_is)
    (case a_parse_log => k_is)
    (case l_parse_log => k_is)
    (case c_parse_log => k_is)
    (case k_parse_log => k_is)
    (case a__law_box => k_is)
    (case l__law_box => k_is)
    (case c__law_box => k_is)
    (case k__law_box => k_is)
    (case a__law_draw => k_is)
    (case l__law_draw => k_is)
    (case c__law_draw => k_is)
    (case k__law_draw => k_is)
    (case a__law_is => k_is)
    (case l__law_is => k_is)
    (case c__law_is => k_is)
    (case k__law_is => k_is)
    (case a__law_integers => k_is)
    (case l__law_integers => k_is)
    (case c__law_integers => k_is)
    (case k__law_integers => k_is)
    (case a__law_node => k_is)
    (case l__law_node => k_is)
    (case c__law_node => k_is)
    (case k__law_node => k_is)
    (case a__law_log => k_is)
    (case l__law_log => k_is)
    (case c__law_log => k_is)
    (case k__law_log => k_is)
    (case a__law_word => k_is)
    (case l__law_word => k_is)
    (case c__law_word => k_is)
    (case k__law_word => k_is)
    (case a__law_sign => k_is)
    (case l__law_sign => k_is)
    (case c__law_sign => k_is)
    (case k__law_sign => k_is)
    (case a__law_odd_word => k_is)
    (case l__law_odd_word => k_is)
    (case c__law_odd_word => k_is)
    (case k__law_odd_word => k_is)
    (case a__law_spoilt => k_is)
    (case l__law_spoilt => k_is)
    (case c__law_spoilt => k_is)
    (case k__law_spoilt => k_is)
    (case a__law_number => k_is)
    (case l__law_number => k_is)
    (case c__law_number => k_is)
    (case k__law_number => k_is)
    (case a__law_read => k_is)
    (case l__law_read => k_is)
    (case c__law_read => k_is)
    (case k__law_read => k_is)
    (case a__law_parse_right => k_is)
    (case l__law_parse_right => k_is)
    (case c__law_parse_right => k_is)
    (case k__law_parse_right => k_is)
    (case a__law_format_right => k_is)
    (case l__law_format_right => k_is)
    (case c__law_format_right => k_is)
    (case k__law_format_right => k_is)
    (case a__law_zero_refused => k_is)
    (case l__law_zero_refused => k_is)
    (case c__law_zero_refused => k_is)
    (case k__law_zero_refused => k_is)
    (case a_law => k_is)
    (case l_law => k_is)
    (case c_law => k_is)
    (case k_law => k_is)
    (case b_ValueError => k_is)
    (case b_enumerate => k_is)
    (case b_range => k_is)
    (case b_int => k_is)
    (case b_list => k_is)
    (case b_isinstance => k_is)
    (case b_len => k_is)
    (case b_str => k_is)
    (case b_bool => k_is)
    (case b_super => k_is)
    (case k_MOST_DIGITS => k_is)
