import PyProof.Rows.All
import Wide.All
import OpenK.AllK
import Wide.FinOn
import KE.KExcSuper
import HandS.ForMost
import HandS.Exc
import HandS.ExcInit
import HandS.ExcCtx
import HandS.HotCalls
import HandS.ExcInitHot
import HandS.ExcIs
import HandS.More
import HandS.IsInst
import HandS.ExcField
import HandS.CallSlots
import HandS.TryMany
import HandS.Text
import HandS.Zip
import KE.KExcIs
import HandS.ClsMeth
import HandS.StrMore
import HandS.Sort
import HandS.Conv
import HandS.Codes
import HandS.Comp
import HandS.TupLe
import HandS.Dict
import PyProof.TupleIter
import HandS.Deep
import HandS.Style
import PyProof.SliceList
import HandS.FStr
import HandS.Walk
import HandS.Steps
import HandS.Iter
import PyProof.FString3
import PyProof.Rows.StrIntSpec
import HandS.OwnEq
import HandS.SlotsOwn
import KE.KCallOwn
import HandS.GenBody
import HandS.GenYield
import HandS.GenCall
import HandS.GenList
import HandS.Nested
import HandS.MakeKwOnly
import KE.KSuper
import KE.RegKSuper
import HandS.SortInts
import PySem.Challenge.RW_latelink_k11_refusals_of_modes
set_option Elab.async false
set_option linter.all false
set_option maxRecDepth 100000
set_option maxHeartbeats 4000000
/-! own exceptions whose __init__ is: super().__init__('text'); self.f = f, .. -/
namespace LkX
open PySem PySem.W PySem.Calls PyProof.Rows PySem.HandSPX

/-- the stores: self.f = f, for the names in turn -/
inductive Stores : List Str → List Stmt → Prop
  | nil : Stores [] []
  | cons {f : Str} {fs : List Str} {ss : List Stmt} {q1 q2 q3 q4 : Pos} : Stores fs ss → Stores (f :: fs) (.Assign [.Attribute (.Name "self" q1) f q2] (.Name f q3) q4 :: ss)
/-- the whole body -/
def InitBody (fs : List Str) (body : List Stmt) : Prop := ∃ (m : Str) (j : Nat) (p0 p1 p2 p3 p4 p5 : Pos) (ss : List Stmt),
  body = .Expr (.Call (.Attribute (.Call (.Name "super" p0) [] [] p1) "__init__" p2) [.Constant (.str m) j p3] [] p4) p5 :: ss ∧ (p2.endLine == p4.line) = true ∧ Stores fs ss

/-- what the written part says of the class x at C, its __init__ at fI, its fields' names fs -/
structure ExcTxt (prog : Program) (K : Frag) (C fI : Addr) (fs : List Str) : Prop where
  cls : ∃ nm q N bs bm sn sub ab col dd k0 k1 k2 k3 k5, K.lookup C = some (excClassObj nm q C N bs bm true sn sub ab col dd k0 k1 k2 k3 k5 "ValueError.__new__") ∧ refsVE bm = true
  sa : findIn K (.ref C) "__setattr__" = some (some (.builtin "object.__setattr__"))
  noN : ∀ f ∈ fs, findIn K (.ref C) f = some none
  iC : findIn K (.ref C) "__init__" = some (some (.ref fI))
  tI : typeIn K (.ref fI) = some (.type "function")
  kC : keepIn K (.ref C) = true
  exC : subIn K (.ref C) (.type "BaseException") = some true
  tyC : typeIn K (.ref C) = some (.type "type")
  vE : subIn K (.ref C) (.type "ValueError") = some true
  su : ks_superIn K C C "__init__" = some (some (.builtin "ValueError.__init__"))
  op : nsIn K cStatics "thirdparty.any" = some none
  gs : nsIn K mainGlobals "super" = some none
  fn : ∃ (qual : Str) (params : Arguments) (body : List Stmt) (scope : Scope) (oc : Value) (od : Option Addr) (doc pm : Value) (an : Option Addr) (cda : Addr) (ct : Value) (cc : Addr) (osl : Array (Option Value)) (ccl : Value) (cdd : Option Addr) (cvs : Array Value) (ccs : Array (Option Value)) (file : Str) (tf : Tok) (cl : Value) (cld : Option Addr) (csl : Array (Option Value)) (ar : Arg),
    K.lookup fI = some ⟨oc, od, .func (ksFn "__init__" qual params body scope .none .none doc pm an (.ref cda) ct cc), osl⟩ ∧ codeIn K (.ref cda) qual = true ∧
    K.lookup cda = some ⟨ccl, cdd, .fields cvs, ccs⟩ ∧ cvs[2]? = some (.str file tf) ∧ ((prog.main.file : Str) == file) = true ∧
    K.lookup cc = some ⟨cl, cld, .cell (some (.ref C)), csl⟩ ∧ InitBody fs body ∧ (params.posonlyargs ++ params.args).head? = some ar ∧ ar.arg = "self" ∧
    (prog.main.scope.names.lookup ("super" : Str)).isSome = false ∧
    scope.names.lookup ("super" : Str) = some .globalImplicit ∧ scope.names.lookup ("__class__" : Str) = some .free ∧ (∀ x ∈ scope.names, x.2 ≠ .cell) ∧
    (∀ f ∈ ("self" : Str) :: fs, scope.names.lookup f = some .local) ∧ scope.isCoroutine = false ∧ scope.isGenerator = false ∧ scope.kind = .function ∧
    (∀ us : List Value, us.length = (("self" : Str) :: fs).length → bindArgs (ksFn "__init__" qual params body scope .none .none doc pm an (.ref cda) ct cc) ⟨us, []⟩ = pure ((("self" : Str) :: fs).zip us))
  nd : (("self" : Str) :: fs).Nodup
  nb : ∀ f ∈ ("self" : Str) :: fs, (f == ("__debug__" : Str)) = false
  few : fs.length ≤ 100

theorem lookup_zip : ∀ {ns : List Str} {vs : List Value} {i : Nat} {f : Str} {v : Value}, ns.Nodup → ns[i]? = some f → vs[i]? = some v → (ns.zip vs).reverse.lookup f = some v := by
  intro ns
  induction ns with
  | nil => intro vs i f v _ h; simp at h
  | cons n ns ih =>
    intro vs i f v hd hf hv
    cases vs with
    | nil => simp at hv
    | cons u vs =>
      have hd' := List.nodup_cons.mp hd
      rw [List.zip_cons_cons, List.reverse_cons, List.lookup_append]
      cases i with
      | zero =>
        simp at hf hv
        subst hf; subst hv
        have hno : (ns.zip vs).reverse.lookup n = none := by
          cases hq : (ns.zip vs).reverse.lookup n with
          | none => rfl
          | some w =>
            have := PySem.mem_of_lookup hq
            rw [List.mem_reverse] at this
            exact absurd (List.of_mem_zip this).1 hd'.1
        rw [hno]
        simp [List.lookup]
      | succ i =>
        simp at hf hv
        rw [ih hd'.2 hf hv]
        rfl

theorem mcall_plain {o e : Expr} {name : Str} {apos pos : Pos} {env : Env} (h : (apos.endLine == pos.line) = true) (he : starEach [e] env = [(false, eval e env)] := by rfl) :
    eval (.Call (.Attribute o name apos) [e] [] pos) env = (do
      let ov ← attributeBase o name env (eval o env)
      standAt apos.atName
      let (f, first) ← holding [ov] (getMethod ov name (do return (← importBound o env).getD true))
      callWith pos f first (backTo pos (starEach [e] env)) []) := by
  rw [arm_eval_Call, he]
  unfold methodCall methodCallPos calleeOf
  rw [h]
  rfl
theorem quiet_of {env : Env} (h : env.scope.kind = .function) : interactive env = false := by simp [interactive, h]
theorem callWith1 {M : Model} {A : Around} {E : Value → Shared → Prop} {s : Shared} {i : String} {x u : Addr} {pos : Pos} {env : Env} {e : Expr} {rest : List Expr} {Q : Value → Shared → Prop}
    (h : wpAny M A (spliced (backTo pos (starEach (e :: rest) env))) (fun vs s₁ => KxsAt i u x s₁.heap ∧ wpAny M A (call (.ref u) vs) Q E s₁) E s)
    (he : starEach (e :: rest) env = (false, eval e env) :: starEach rest env := by rfl) (hplain : (backTo pos (starEach rest env)).any (·.1) = false := by rfl) :
    wpAny M A (callWith pos (.ref u) [] (backTo pos (starEach (e :: rest) env)) []) Q E s := by
  rw [he] at h ⊢
  refine kxs_callWith (i := i) (x := x) (by show (false || (backTo pos (starEach rest env)).any (·.1)) = false; rw [hplain]; rfl) ?_
  exact evalArgs_plain h
theorem spl1 {M : Model} {A : Around} {E : Value → Shared → Prop} {s : Shared} {pos : Pos} {env : Env} {e : Expr} {Q : List Value → Shared → Prop} (h : wpAny M A (eval e env) (fun v s₁ => Q [v] s₁) E s) (he : starEach [e] env = [(false, eval e env)] := by rfl) :
    wpAny M A (spliced (backTo pos (starEach [e] env))) Q E s := by
  rw [he]
  show wpAny _ _ (spliced ((false, eval e env) :: [])) _ _ s
  exact Calls.spliced_cons (wpAny_mono h (fun v s1 q => Calls.spliced_nil q) fun _ _ z => z)
/-- what __init__ leaves of the exception at x: its dict at dx holds m -/
structure InitEnd (h h' : Heap) (x C : Addr) (fs : List Str) (vs : List Value) : Prop where
  keep : ∀ b o, b ≠ x → h.get? b = some o → h'.get? b = some o
  fin : ∃ (t1 dx : Addr), h'.get? x = some ({ cls := .ref C, dict := some dx, data := .fields #[.ref t1, .none, .none, .none, .bool false, .none] } : Obj) ∧ h.objs.size ≤ dx ∧ dx ≠ x ∧
    ∃ mA, h'.Ns1 dx mA ∧ (∀ (i : Nat) (f : Str) (v : Value), fs[i]? = some f → vs[i]? = some v → mA f = some v) ∧ ∀ f, f ∉ fs → mA f = none

section
variable {prog : Program} {w : World} {A : Around} {E : Value → Shared → Prop} {R : Result → Shared → Prop} {K : Frag} {C fI : Addr} {fs : List Str}

theorem ldE {M : Model} {s : Shared} {env : Env} {m : Str → Option Value} {x : Str} {pos : Pos} {v : Value} {Q : Value → Shared → Prop} (hn : s.heap.Ns env.locals m) (hv : m x = some v) (h : Q v s)
    (hk : env.scope.kind = .function) (hl : env.kindOf x = some .local) (hd : (x == ("__debug__" : Str)) = false) : wpAny M A (eval (.Name x pos) env) Q E s := wpAny_Name (wpAny_loadName_local hk hl hn hv h) hd

/-- further stores: the dict is there -/
theorem stores_old (T : ExcTxt prog K C fI fs) {env : Env} {x t1 dx : Addr} (hk : env.scope.kind = .function) {N : Str → Option Value} (hself : N "self" = some (.ref x)) (hls : env.kindOf "self" = some .local) :
    ∀ (gs : List Str) (ss : List Stmt) (s : Shared) (mA : Str → Option Value) (nl : List Str) {Q : Flow → Shared → Prop}, Stores gs ss → (∀ f ∈ gs, f ∈ fs ∧ env.kindOf f = some .local ∧ ∃ v, N f = some v) → K.In s.heap → s.heap.Ns env.locals N → env.locals ≠ x → env.locals ≠ dx →
    s.heap.get? x = some ({ cls := .ref C, dict := some dx, data := .fields #[.ref t1, .none, .none, .none, .bool false, .none] } : Obj) → s.heap.Ns1 dx mA → Within mA nl → nl.length + gs.length ≤ 1000 → K.lookup dx = none → dx ≠ x → gs.Nodup →
    (∀ h' tk mB, (∀ b o, b ≠ dx → s.heap.get? b = some o → h'.get? b = some o) → h'.Ns1 dx mB → (∀ f ∈ gs, mB f = N f) → (∀ f, f ∉ gs → mB f = mA f) → Q .next { s with heap := h', toks := tk }) →
    wpAny (model prog w) A (execs ss env) Q E s := by
  obtain ⟨nm, q, N0, bs, bm, sn, sub, ab, col, dd, k0, k1, k2, k3, k5, hC, hbm⟩ := T.cls
  have hcl : clsIn K C = some { name := nm, bases := bs, mro := .ref C :: bm, ns := N0, qualname := q, hasDict := true, slotNames := sn, subclasses := sub, abstract := ab, collection := col, hasDel := false } := by unfold clsIn; rw [hC] <;> rfl
  intro gs
  induction gs with
  | nil =>
    intro ss s mA nl Q hS _ _ _ _ _ _ hn _ _ _ _ _ hq
    cases hS
    obtain ⟨hp, g, d, t, os⟩ := s
    exact wpAny_execs_nil (hq hp t mA (fun _ _ _ e => e) hn (fun _ h => absurd h List.not_mem_nil) fun _ _ => rfl)
  | cons f gs ih =>
    intro ss s mA nl Q hS hf hKI hns hLx hLd hx hn hw hz hKd hdx hnd hq
    cases hS with
    | cons hS' =>
      obtain ⟨hfm, hfl, v, hv⟩ := hf f List.mem_cons_self
      obtain ⟨oD, _, _, hoD, _, _⟩ := hn.count hw
      refine wpAny_execs_cons (plainObj_wpAny_Assign_Attribute ?_)
      refine ldE hns hv (ldE hns hself ?_ hk hls (T.nb _ List.mem_cons_self)) hk hfl (T.nb _ (List.mem_cons_of_mem _ hfm))
      obtain ⟨hp, g, d, t, os⟩ := s
      refine set_plain hKI (ox := { cls := .ref C, dict := some dx, data := .fields #[.ref t1, .none, .none, .none, .bool false, .none] }) (od := some oD) ⟨hx, rfl, rfl, hoD⟩ T.sa ?_
      refine PySem.OEX.osa_old hKI hx hn hw (by simp at hz; omega) hcl (show refsVE (.ref C :: bm) = true from hbm) rfl (T.noN f hfm) (fun h' tk' k hn' => ?_)
      have kK : K.In h' := fun a o e => k a o (fun z => by rw [z, hKd] at e; cases e) (hKI a o e)
      have hns' : h'.Ns env.locals N := by
        obtain ⟨o, es, ep, ho, hr⟩ := hns
        exact ⟨o, es, ep, k _ _ hLd ho, hr⟩
      refine ih _ ⟨h', g, d, tk', os⟩ (fun y => if y = f then some v else mA y) (f :: nl) hS' (fun f' hf' => hf f' (List.mem_cons_of_mem _ hf')) kK hns' hLx hLd (k _ _ hdx.symm hx) hn' (Within.cons f v hw) (by simp at hz ⊢; omega) hKd hdx (List.nodup_cons.mp hnd).2 ?_
      intro h2 tk2 mB k2 hnB hB hB'
      refine hq h2 tk2 mB (fun b o hb e => k2 b o hb (k b o hb e)) hnB (fun f' hf' => ?_) fun f' hf' => ?_
      · rcases List.mem_cons.mp hf' with e | hf'
        · subst e
          rw [hB' _ (List.nodup_cons.mp hnd).1, if_pos rfl, hv]
        · exact hB f' hf'
      · rw [hB' f' (fun z => hf' (List.mem_cons_of_mem _ z)), if_neg (fun z => hf' (by rw [z]; exact List.mem_cons_self))]

/-- super().__init__('m') called: the built-in's part -/
theorem call_init {u x t0 : Addr} {rest : List Value} {s : Shared} {Q : Value → Shared → Prop} (T : ExcTxt prog K C fI fs) (X : K.In s.heap) (hu : s.heap.get? u = some (kxs_mw "ValueError.__init__" x)) (hx : s.heap.get? x = some (excO C t0)) (hz : rest.length ≤ sizeLine)
    (hq : ∀ h' t1, (∀ b o, b ≠ x → s.heap.get? b = some o → h'.get? b = some o) → h'.get? x = some (excO C t1) → Q .none { s with heap := h' }) : wpAny (model prog w) A (call (.ref u) rest) Q E s := by
  obtain ⟨nm, q, N0, bs, bm, sn, sub, ab, col, dd, k0, k1, k2, k3, k5, hC, hbm⟩ := T.cls
  obtain ⟨hh, g, d, tk, os⟩ := s
  refine wpAny_call (codeAny_of_tree ?_)
  show wpAny _ A.in1 (callAny (.ref u) ⟨rest, []⟩) _ _ _
  simp only [callAny]
  refine wpAny_bind (wpAny_load hu ?_)
  simp only [kxs_mw, show (Value.type "method-wrapper" == Value.type "method" || Value.type "method-wrapper" == Value.type "builtin_function_or_method" || Value.type "method-wrapper" == Value.type "method-wrapper") = true by decide, if_true]
  refine KFB.if_so (by decide) ?_
  refine wpAny_bind (check_bound_init F.excBase_ValueError.toExcCallFacts (X _ _ hC) hx rfl ?_)
  refine wpAny_bind (wpAny_pure (wpAny_pure ?_))
  refine ⟨plainId_quiet F.excBase_ValueError.init.plain _, codeAny_builtin F.excBase_ValueError.initEntry ?_⟩
  exact exc_init_tree (cls := .ref C) (t0 := t0) (dv := none) (c2 := .none) (c3 := .none) (b4 := .bool false) hx hz fun h' k e' _ => hq h' _ k e'

theorem exc_init (T : ExcTxt prog K C fI fs) {x t0 : Addr} {vs : List Value} {s : Shared} {mg mb : Str → Option Value} (hfs : fs ≠ []) (hlen : vs.length = fs.length) (X : K.In s.heap) (hlim : s.heap.NoLimit) (hg : s.heap.Ns mainGlobals mg) (hb : s.heap.Ns builtinsNs mb) (hbs : mb "super" = some (.type "super")) (hx : s.heap.get? x = some (excO C t0)) (hnx : K.lookup x = none) (hroom : A.depth < recursionLimit)
    (hq : ∀ h' tk, InitEnd s.heap h' x C fs vs → R (.ok (.ret .none)) { s with heap := h', toks := tk }) :
    codeAny (model prog w) A (.call (.ref fI) ⟨.ref x :: vs, []⟩) R s := by
  obtain ⟨qual, params, body, scope, oc, od, doc, pm, an, cda, ct, cc, osl, ccl, cdd, cvs, ccs, file, tf, cl, cld, csl, ar, ho, hcd, hcda, hc2, hfile, hcell, ⟨m, j, p0, p1, p2, p3, p4, p5, ss, rfl, hpl, hS⟩, har, hself, htop, hsu, hcls, hnc, hloc, hco, hgen, hk, hbind⟩ := T.fn
  obtain ⟨nm, q, N0, bs, bm, sn, sub, ab, col, dd, k0, k1, k2, k3, k5, hC, hbm⟩ := T.cls
  have hcl : clsIn K C = some { name := nm, bases := bs, mro := .ref C :: bm, ns := N0, qualname := q, hasDict := true, slotNames := sn, subclasses := sub, abstract := ab, collection := col, hasDel := false } := by unfold clsIn; rw [hC] <;> rfl
  refine ks_codeAny_call_defAt (binds := (("self" : Str) :: fs).zip (.ref x :: vs)) hroom (X _ _ ho) rfl hlim (codeRec_of X hcd) rfl (BindsTo.of_eq (hbind _ (by simp [hlen]))) hnc (fun y hy => hloc _ (List.of_mem_zip (show (y.1, y.2) ∈ _ from hy)).1) (fun h₀ hns hk₀ => ?_) hco hgen hk
  have X0 : K.In h₀ := X.keeps hk₀
  have nself : (((("self" : Str) :: fs).zip (Value.ref x :: vs)).reverse).lookup ("self" : Str) = some (Value.ref x) := lookup_zip (i := 0) T.nd rfl rfl
  have nfld : ∀ (i : Nat) (f : Str) (v : Value), fs[i]? = some f → vs[i]? = some v → (((("self" : Str) :: fs).zip (Value.ref x :: vs)).reverse).lookup f = some v := fun i f v h1 h2 => lookup_zip (i := i + 1) T.nd (by simpa using h1) (by simpa using h2)
  have hx0 := hk₀ _ _ hx
  have hLs : s.heap.objs.size ≠ x := Nat.ne_of_gt (Heap.lt_size hx)
  have xC : x ≠ C := fun z => by rw [z] at hnx; rw [hC] at hnx; cases hnx
  -- super().__init__('m')
  refine ks_wpAt_execs_cons (ks_wpAt_Expr_any (ks_wpAt_MethodCall ?_ (mcall_plain hpl)) (quiet_of hk) rfl)
  refine ks_wpAt_super_base (env := callEnv (ksFn "__init__" qual params _ scope .none .none doc pm an (.ref cda) ct cc) s.heap.objs.size fI) hsu hcls (by decide) rfl (X0 _ _ ho) rfl har rfl (X0 _ _ hcda) rfl hc2 hfile htop ?_
  refine ks_loadName_global hk hsu (loadGlobal_builtin (env := callEnv (ksFn "__init__" qual params _ scope .none .none doc pm an (.ref cda) ct cc) s.heap.objs.size fI) (hg.keeps hk₀) (mg_none_of X hg T.gs) (hb.keeps hk₀) hbs ⟨rfl, ?_⟩)
  refine wpAny_loadName_free hk hcls rfl ⟨_, X0 _ _ hcell, rfl⟩ ?_
  refine wpAny_loadName_local hk (by rw [hself]; exact hloc _ List.mem_cons_self) hns (by rw [hself]; exact nself) ?_
  refine ks_wpAny_isType_cls (X0 _ _ hC) rfl ⟨rfl, ?_⟩
  refine ks_wpAny_call_super (X0 _ _ hC) rfl hx0 rfl (fun c e => by cases e) (looks_mroIn X0 (show mroIn K C (.ref C) = some true from ?_)) (fun h1 e1 k1' => ?_)
  · unfold mroIn
    rw [hcl, Option.bind_some]
    simp
  have X1 : K.In h1 := X0.keeps k1'
  have hx1 := k1' _ _ hx0
  unfold ks_superIn at *
  have hsu' := T.su
  unfold ks_superIn at hsu'
  rw [hcl] at hsu'
  have hI : Looks (model prog w) h1 (isInstance (.ref x) (.type "ValueError")) true := fun A Q E s' k q => wpAny_bind (wpAny_typeOf_ref (k _ _ hx1) (looks_subIn X1 T.vE A Q E s' k q))
  refine kxs_getMethod kxs_ValueError e1 (looks_opaque X1 T.op) (l₀ := .ref C :: bm) (fun A Q E s k q => wpAny_bind ((looks_clsIn X1 hcl) A _ E s k (wpAny_pure q))) rfl X1 hsu' hI xC (by decide) ?_
  have hu : (h1.push (kxs_mw "ValueError.__init__" x)).get? h1.objs.size = some (kxs_mw "ValueError.__init__" x) := Heap.get?_push_at rfl rfl
  have k2' : ∀ b o, h1.get? b = some o → (h1.push (kxs_mw "ValueError.__init__" x)).get? b = some o := fun b o e => Heap.get?_push_of_some _ e
  refine callWith1 (i := "ValueError.__init__") (x := x) ?_
  refine spl1 (Calls.Constant_str ⟨hu, ?_⟩)
  refine call_init T (X1.keeps k2') hu (k2' _ _ hx1) (by rw [sizeLine_eq]; simp) fun h2 t1 k3' hx2 => ?_
  have KX2 : K.In h2 := fun a o e => k3' a o (fun z => by rw [z, hnx] at e; cases e) (k2' _ _ (X1 a o e))
  refine wpAt_of_wpAny ?_
  -- the stores
  cases hS with
  | nil => exact absurd rfl hfs
  | @cons f gs ss' q1 q2 q3 q4 hS' =>
    have hLn : ∀ {b o}, s.heap.get? b = some o → b ≠ x → h2.get? b = some o := fun {b o} e hb => k3' b o hb (k2' _ _ (k1' _ _ (hk₀ _ _ e)))
    have hns2 : h2.Ns s.heap.objs.size (fun y => ((("self" : Str) :: (f :: gs)).zip (.ref x :: vs)).reverse.lookup y) := by
      obtain ⟨o, es, ep, hoo, hr⟩ := hns
      exact ⟨o, es, ep, k3' _ _ hLs (k2' _ _ (k1' _ _ hoo)), hr⟩
    obtain ⟨v, vs', rfl⟩ : ∃ v vs', vs = v :: vs' := by
      cases vs with
      | nil => simp at hlen
      | cons v vs' => exact ⟨v, vs', rfl⟩
    refine wpAny_execs_cons (plainObj_wpAny_Assign_Attribute ?_)
    refine ldE (env := callEnv (ksFn "__init__" qual params _ scope .none .none doc pm an (.ref cda) ct cc) s.heap.objs.size fI) hns2 (nfld 0 f v rfl rfl) (ldE (env := callEnv (ksFn "__init__" qual params _ scope .none .none doc pm an (.ref cda) ct cc) s.heap.objs.size fI) hns2 nself ?_ hk (hloc _ List.mem_cons_self) (T.nb _ List.mem_cons_self)) hk (hloc _ (by simp)) (T.nb _ (by simp))
    refine set_plain KX2 (ox := excO C t1) (od := none) ⟨hx2, rfl, rfl, trivial⟩ T.sa ?_
    refine exc_osa KX2 hx2 hcl (show refsVE (.ref C :: bm) = true from hbm) rfl (T.noN f (by simp)) (fun h3 tk3 dx k4' dn dne hx3 hn3 => ?_)
    have sz : ∀ {b o}, h2.get? b = some o → b ≠ dx := fun {b o} e => Nat.ne_of_lt (Nat.lt_of_lt_of_le (Heap.lt_size e) dn)
    have hKd : K.lookup dx = none := by
      cases e : K.lookup dx with
      | none => rfl
      | some o => exact absurd rfl (sz (KX2 _ _ e))
    have KX3 : K.In h3 := fun a o e => k4' a o (fun z => by rw [z, hnx] at e; cases e) (KX2 a o e)
    have hL2 : ∃ o, h2.get? s.heap.objs.size = some o := by
      obtain ⟨o, es, ep, hoo, hr⟩ := hns2
      exact ⟨o, hoo⟩
    obtain ⟨oL, hoL⟩ := hL2
    have hns3 : h3.Ns s.heap.objs.size (fun y => ((("self" : Str) :: (f :: gs)).zip (.ref x :: (v :: vs'))).reverse.lookup y) := by
      obtain ⟨o, es, ep, hoo, hr⟩ := hns2
      exact ⟨o, es, ep, k4' _ _ hLs hoo, hr⟩
    have nd2 := (List.nodup_cons.mp (List.nodup_cons.mp T.nd).2)
    refine stores_old T (env := callEnv (ksFn "__init__" qual params _ scope .none .none doc pm an (.ref cda) ct cc) s.heap.objs.size fI) hk nself (hloc _ List.mem_cons_self) gs ss' _ _ [f] hS' (fun f' hf' => ⟨List.mem_cons_of_mem _ hf', hloc _ (by simp [hf']), ?_⟩) KX3 hns3 hLs (sz hoL) hx3 hn3 (fun y hy => ?_) ?_ hKd dne nd2.2 ?_
    · obtain ⟨i, hi⟩ := List.getElem?_of_mem hf'
      have hi2 : i < vs'.length := by
        have := (List.getElem?_eq_some_iff.mp hi).1
        simp at hlen
        omega
      exact ⟨vs'[i], nfld (i + 1) f' _ (by simpa using hi) (by simp [hi2])⟩
    · by_cases hyf : y = f
      · simp [hyf]
      · simp [hyf] at hy
    · have := T.few
      simp at this ⊢
      omega
    · intro h4 tk4 mB k5' hnB hB hB'
      refine hq h4 tk4 ⟨fun b o hb e => k5' b o (fun z => ?_) (k4' b o hb (hLn e hb)), t1, dx, k5' _ _ dne.symm hx3, ?_, dne, mB, hnB, fun i f' u h1 h2' => ?_, fun f' hf' => ?_⟩
      · exact sz (hLn e hb) z
      · have l1 : s.heap.objs.size < h2.objs.size := Heap.lt_size hoL
        exact Nat.le_of_lt (Nat.lt_of_lt_of_le l1 dn)
      · cases i with
        | zero =>
          simp at h1 h2'
          subst h1; subst h2'
          rw [hB' _ nd2.1, if_pos rfl]
        | succ i =>
          have hm : f' ∈ gs := List.mem_of_getElem? (by simpa using h1)
          rw [hB f' hm]
          exact nfld (i + 1) f' u h1 h2'
      · rw [hB' f' (fun z => hf' (List.mem_cons_of_mem _ z)), if_neg (fun z => hf' (by rw [z]; exact List.mem_cons_self))]
/-- a made exception -/
structure OwnMade (h h' : Heap) (e C d : Addr) (fs : List Str) (vs : List Value) : Prop where
  keep : ∀ b o, h.get? b = some o → h'.get? b = some o
  new : h.objs.size ≤ e
  obj : ∃ t1 : Addr, h'.get? e = some ({ cls := .ref C, dict := some d, data := .fields #[.ref t1, .none, .none, .none, .bool false, .none] } : Obj)
  dbig : h.objs.size ≤ d
  dne : d ≠ e
  ns : ∃ mA, h'.Ns1 d mA ∧ (∀ (i : Nat) (f : Str) (v : Value), fs[i]? = some f → vs[i]? = some v → mA f = some v) ∧ ∀ f, f ∉ fs → mA f = none
theorem exc_made (T : ExcTxt prog K C fI fs) {vs : List Value} {s : Shared} {mg mb : Str → Option Value} (hfs : fs ≠ []) (hlen : vs.length = fs.length) (X : K.In s.heap) (hlim : s.heap.NoLimit) (hg : s.heap.Ns mainGlobals mg) (hb : s.heap.Ns builtinsNs mb) (hbs : mb "super" = some (.type "super")) (hroom : A.depth + 1 < recursionLimit)
    (hq : ∀ h' tk e d, OwnMade s.heap h' e C d fs vs → R (.ok (.ret (.ref e))) { s with heap := h', toks := tk }) :
    codeAny (model prog w) A (.call (.ref C) ⟨vs, []⟩) R s := by
  obtain ⟨nm, q, N, bs, bm, sn, sub, ab, col, dd, k0, k1, k2, k3, k5, hC, hbm⟩ := T.cls
  obtain ⟨hp, g, dr, tk, os⟩ := s
  have k : ∀ b o, hp.get? b = some o → ((hp.push (kdv_tup vs)).push (excO C hp.objs.size)).get? b = some o := fun b o e => Heap.get?_push_of_some _ (Heap.get?_push_of_some _ e)
  have hget : ((hp.push (kdv_tup vs)).push (excO C hp.objs.size)).get? (hp.objs.size + 1) = some (excO C hp.objs.size) := by heap_get
  have hnx : K.lookup (hp.objs.size + 1) = none := by
    cases e : K.lookup (hp.objs.size + 1) with
    | none => rfl
    | some o =>
      have z : hp.get? (hp.objs.size + 1) = some o := X _ _ e
      exact absurd (Nat.lt_of_succ_lt (Heap.lt_size z)) (Nat.lt_irrefl _)
  have hsz : vs.length ≤ sizeLine := by
    have := T.few
    rw [hlen, sizeLine_eq]
    omega
  refine call_own F.excBase_ValueError (fun X => refsVE_contains X bm hbm) (X _ _ hC) (looks_findIn X T.iC) (fun self => bind_fn X self T.tI) hsz ?_
  refine exc_init (s := ⟨(hp.push (kdv_tup vs)).push (excO C hp.objs.size), g, dr, tk, os⟩) T hfs hlen (X.keeps k) (hlim.keeps k) (hg.keeps k) (hb.keeps k) hbs hget hnx ?_ fun h' tk' IE => ?_
  · show A.depth + 1 < recursionLimit
    exact hroom
  · obtain ⟨k', t1, dx, hx, dn, dne, mA, hn, hv⟩ := IE
    have old : ∀ b o, hp.get? b = some o → h'.get? b = some o := fun b o e => k' b o (Nat.ne_of_lt (Nat.lt_succ_of_lt (Heap.lt_size e))) (k b o e)
    have z : hp.objs.size + 1 + 1 ≤ dx := by
      first
        | (simpa only [Heap.size_push] using dn)
        | exact dn
        | (have q := dn; rw [Heap.size_push, Heap.size_push] at q; exact q)
    exact ⟨rfl, hq h' tk' (hp.objs.size + 1) dx ⟨old, Nat.le_succ _, ⟨t1, hx⟩, Nat.le_trans (Nat.le_trans (Nat.le_succ _) (Nat.le_succ _)) z, dne, mA, hn, hv⟩⟩
end
end LkX

namespace Lk
open PySem PySem.Spec PyProof.Rows L2
abbrev St := L2.St

/-! ### raise C(e, ..) -/
/-- C(e, ..): the new exception's own dict at d -/
def tMkX (C : Addr) (fs : List Str) (ta : TA) : St → Hp → XK → Prop := fun σ H Q => ta σ H fun vs H1 => vs.length = fs.length ∧ ∀ d, H1 d = none → Q (.ref C) (some d) (upd H1 d (.xd (fs.zip vs)))
theorem zip_rel : ∀ {fs : List Str} {vs : List V} {us : List Value} {mA : Str → Option Value}, Vals vs us → vs.length = fs.length → (∀ (i : Nat) (f : Str) (v : Value), fs[i]? = some f → us[i]? = some v → mA f = some v) → (∀ f, f ∉ fs → mA f = none) → fs.Nodup → ∀ f, RelO ((fs.zip vs).lookup f) (mA f) := by
  intro fs
  induction fs with
  | nil =>
    intro vs us mA r hl h hn hd f
    rw [hn f List.not_mem_nil]
    exact True.intro
  | cons g fs ih =>
    intro vs us mA r hl h hn hd f
    cases r with
    | nil => simp at hl
    | @cons x u vs us rx rr =>
      rw [List.zip_cons_cons, lookup_put]
      by_cases hfg : f = g
      · rw [if_pos hfg, hfg, h 0 g u rfl rfl]
        exact rx
      · rw [if_neg hfg]
        have q := ih (mA := fun y => if y = g then none else mA y) rr (by simpa using hl) (fun i f' v' h1 h2 => by
            rw [if_neg (fun z => (List.nodup_cons.mp hd).1 (by rw [← z]; exact List.mem_of_getElem? h1))]
            exact h (i + 1) f' v' (by simpa using h1) (by simpa using h2)) (fun f' hf' => by
            by_cases z : f' = g
            · rw [if_pos z]
            · rw [if_neg z]
              exact hn f' (fun y => by rcases List.mem_cons.mp y with y | y; exact z y; exact hf' y)) (List.nodup_cons.mp hd).2 f
        rw [if_neg hfg] at q
        exact q
section
variable {X : Cx} {C fI : Addr} {fs : List Str} {e : Expr} {es : List Expr} {ta : TA} {x : Str} {p pos : Pos} {k : Nat}
theorem made_at {pins : List (Addr × Obj)} {σ : St} {H1 : Hp} {s1 : Shared} {us : List Value} {vs : List V} {Q : XK} {A : Around} {E : Value → Shared → Prop} (T : LkX.ExcTxt X.prog X.K C fI fs) (I1 : Inv X pins σ H1 s1) (r1 : Vals vs us) (hlen : vs.length = fs.length) (hfs : fs ≠ []) (hroom : A.depth + 1 < recursionLimit)
    (q : ∀ d, H1 d = none → Q (.ref C) (some d) (upd H1 d (.xd (fs.zip vs)))) : wpAny (model X.prog X.w) A (call (.ref C) us) (L2N.MkP X pins σ Q) E s1 := by
  obtain ⟨mb, hb1, hb2⟩ := I1.mod.blt
  have hul : us.length = fs.length := by rw [← r1.length]; exact hlen
  refine wpAny_call (LkX.exc_made T hfs hul I1.kIn I1.nolimit (I1.mod.glob.keeps I1.bk) (hb1.keeps I1.bk) ((hb2 "super" (by decide)).trans (by decide +kernel)) hroom fun h' tk' e d M => ?_)
  obtain ⟨hp, g, dr, tk, os⟩ := s1
  show L2N.MkP X pins σ Q (.ref e) ⟨h', g, dr, tk', os⟩
  obtain ⟨t1, hoe⟩ := M.obj
  obtain ⟨mA, hns, hv, hno⟩ := M.ns
  obtain ⟨G', g1, g2⟩ := restrict h' fun b => decide (b ≠ e)
  have gk : ∀ b, b ≠ e → G'.get? b = h'.get? b := fun b hb => g1 b (decide_eq_true hb)
  have ge : G'.get? e = none := g2 e (by simp)
  have old : ∀ b o, hp.get? b = some o → G'.get? b = some o := fun b o q => (gk b (Nat.ne_of_lt (Nat.lt_of_lt_of_le (Heap.lt_size q) M.new))).trans (M.keep b o q)
  have ob : ObjOk X.prog X.w (upd H1 d (.xd (fs.zip vs))) G' d (.xd (fs.zip vs)) :=
    ⟨_, hns.at (fun o q => (gk d M.dne).trans q), zip_rel r1 hlen hv hno (List.nodup_cons.mp T.nd).2⟩
  have J : Inv X pins σ (upd H1 d (.xd (fs.zip vs))) ⟨G', g, dr, tk', os⟩ := I1.laid (t' := tk') old M.dbig ob
  refine ⟨e, _, _, ⟨G', g, dr, tk', os⟩, _, .ref C, some d, rfl, J, fun b o q => ?_, ge, hoe, ⟨rfl, rfl, fun vs hvs => ?_⟩, rfl, rfl, ?_, rfl, I1.bare, raises_own T.exC T.tyC, q d (I1.hok.fresh M.dbig)⟩
  · by_cases hb : b = e
    · have q' : G'.get? b = some o := q
      rw [hb, ge] at q'; cases q'
    · exact (gk b hb).symm.trans q
  · cases hvs
    rfl
  · rw [upd_ne (Ne.symm M.dne)]
    exact I1.hok.fresh M.new
theorem pmk_own (T : LkX.ExcTxt X.prog X.K C fI fs) (hfs : fs ≠ []) (hr : Room k X.A) (hm : X.mg x = some (.ref C)) (ha : PA X (e :: es) ta) (hg : Gl X x) (hdb : (x == ("__debug__" : Str)) = false := by decide)
    (he : starEach (e :: es) X.env = (false, eval e X.env) :: starEach es X.env := by rfl) (hpl : (backTo pos (starEach es X.env)).any (·.1) = false := by rfl) :
    L2N.PMk X (.Call (.Name x p) (e :: es) [] pos) (tMkX C fs ta) := by
  intro pins s σ H Q I h
  refine wpAny_Call_Name_kw (ld_glob I hg hm ?_ hdb)
  refine PySem.W.callWith_K (h₀ := X.base) I.ok.mod.kin T.kC (thn (ha.run pos pins s σ H _ I h) fun us s1 ⟨vs, H1, I1, r1, hl, q1⟩ => ⟨I1.kIn, ?_⟩) he hpl
  exact made_at T I1 r1 hl hfs (by have := hr.dp; omega) q1
end
end Lk
namespace Lk
open PySem PySem.Spec PyProof.Rows L2

/-! ### defs as they are called -/
/-- the def at f keeps sp, by some code -/
def FnA (P : Program) (w : World) (K : PySem.W.Frag) (mg : Str → Option Value) (base : Heap) (k : Nat) (f : Addr) (ps : List Str) (sp : Sp) : Prop :=
  ∃ fd, FnOk P w K mg base (L2N.CX P w) k f fd ps sp ∧ Binds K fd ps []
def FnHA (P : Program) (w : World) (K : PySem.W.Frag) (mg : Str → Option Value) (base : Heap) (k : Nat) (f : Addr) (ps : List Str) (sp : Sp) : Prop :=
  ∃ fd, L2H.FnH P w K mg base (L2N.CX P w) k f fd ps sp ∧ Binds K fd ps []
/-- the module's name x holds the def at f -/
structure Nm (K : PySem.W.Frag) (mg : Str → Option Value) (x : Str) (f : Addr) : Prop where
  m : mg x = some (.ref f)
  k : PySem.W.keepIn K (.ref f) = true
theorem takes0 {X : Cx} : L2N.Takes X (fun _ _ _ _ => False) := fun _ _ x => by
  obtain ⟨_, _, _, _, _, _, _, _, _, _, _, _, _, _, _, _, z⟩ := x
  exact z.elim
section
variable {X : Cx} {k : Nat} {f : Addr} {ps : List Str} {sp : Sp} {W : WX} {x : Str} {p pos : Pos} {e : Expr} {es : List Expr} {t : TA}
theorem pe_callA (G : FnA X.prog X.w X.K X.mg X.base k f ps sp) (hr : Room k X.A) (hm : Nm X.K X.mg x f) (tk : L2N.Takes X W)
    (ha : PA X (e :: es) t) (hg : Gl X x := by rfl) (hdb : (x == ("__debug__" : Str)) = false := by decide) (he : starEach (e :: es) X.env = (false, eval e X.env) :: starEach es X.env := by rfl) (hpl : (backTo pos (starEach es X.env)).any (·.1) = false := by rfl) :
    PE X (.Call (.Name x p) (e :: es) [] pos) (tCallS sp (WE W) t) := by
  obtain ⟨fd, F, b⟩ := G
  exact pe_callS F hr hg hm.m hm.k b (fun σ => L2N.passAt tk σ) ha hdb he hpl
theorem pe_callHA (G : FnHA X.prog X.w X.K X.mg X.base k f ps sp) (hr : L2H.RoomH k X.A) (hc : L2H.HotC X) (hm : Nm X.K X.mg x f)
    (ha : PA X (e :: es) t) (hg : Gl X x := by rfl) (hdb : (x == ("__debug__" : Str)) = false := by decide) (he : starEach (e :: es) X.env = (false, eval e X.env) :: starEach es X.env := by rfl) (hpl : (backTo pos (starEach es X.env)).any (·.1) = false := by rfl) :
    PE X (.Call (.Name x p) (e :: es) [] pos) (tCallS sp (fun _ => E0) t) := by
  obtain ⟨fd, F, b⟩ := G
  exact L2H.pe_callH F hr hc hg hm.m hm.k b (fun σ => L2N.passAt takes0 σ) ha hdb he hpl
end
section
variable {P : Program} {w : World} {K : PySem.W.Frag} {mg : Str → Option Value} {base : Heap}
/-- a def's body, raising or not -/
theorem FnA.of {x qual : Str} {st : Stmt} {f : Addr} {fd : FuncData} {N ps : List Str} {k : Nat} {sp : Sp} (F : Fun K x qual st f fd) (S : FnScope N ps (defScope st)) (b : Binds K fd ps []) (len : ∀ vs H Q E, sp vs H Q E → vs.length = ps.length)
    (hbody : ∀ (cdv : Value) (A : Around) (outer : List Env) (s : Shared) (H : Hp) (vs : List V) (Q : VK) (E : XK), Room k (A.deeper (envOfC qual (defScope st) s.heap.objs.size f cdv)) → L2N.Takes (cxOf (L2N.CX P w) P w K mg base N qual (defScope st) f cdv A outer s H E) (fun cls d _ H' => E cls d H') →
      PassesOwn (model P w) (cxOf (L2N.CX P w) P w K mg base N qual (defScope st) f cdv A outer s H E).A (cxOf (L2N.CX P w) P w K mg base N qual (defScope st) f cdv A outer s H E).env (cxOf (L2N.CX P w) P w K mg base N qual (defScope st) f cdv A outer s H E).xe → sp vs H Q E →
      ∃ t, PSs (cxOf (L2N.CX P w) P w K mg base N qual (defScope st) f cdv A outer s H E) (defBody st) t ∧ t { nx := fun _ H' => Q .non H', rt := Q } (start N vs) H) : FnA P w K mg base (k + 1) f ps sp := by
  obtain ⟨oc, od, kV, doc, pm, an, cdv, ct, osl, rfl, lk, hcd⟩ := F.ex
  exact ⟨_, fn_of lk hcd S len fun A outer s H vs Q E hr hsp => hbody cdv A outer s H vs Q E hr (L2N.takes_of rfl rfl rfl rfl) (passes_of rfl) hsp, b⟩
theorem FnHA.of {x qual : Str} {st : Stmt} {f : Addr} {fd : FuncData} {N ps : List Str} {k : Nat} {sp : Sp} (F : Fun K x qual st f fd) (S : FnScope N ps (defScope st)) (b : Binds K fd ps []) (len : ∀ vs H Q E, sp vs H Q E → vs.length = ps.length)
    (hbody : ∀ (cdv : Value) (A : Around) (outer : List Env) (s : Shared) (H : Hp) (vs : List V) (Q : VK) (E : XK) (p : Addr × Obj), L2H.Hot1 A p → L2H.RoomH k (A.deeper (envOfC qual (defScope st) s.heap.objs.size f cdv)) → L2H.HotC (L2H.cxH (L2N.CX P w) P w K mg base N qual (defScope st) f cdv A outer s H E p) →
      PassesOwn (model P w) (L2H.cxH (L2N.CX P w) P w K mg base N qual (defScope st) f cdv A outer s H E p).A (L2H.cxH (L2N.CX P w) P w K mg base N qual (defScope st) f cdv A outer s H E p).env (L2H.cxH (L2N.CX P w) P w K mg base N qual (defScope st) f cdv A outer s H E p).xe → sp vs H Q E →
      ∃ t, PSs (L2H.cxH (L2N.CX P w) P w K mg base N qual (defScope st) f cdv A outer s H E p) (defBody st) t ∧ t { nx := fun _ H' => Q .non H', rt := Q } (start N vs) H) : FnHA P w K mg base (k + 1) f ps sp := by
  obtain ⟨oc, od, kV, doc, pm, an, cdv, ct, osl, rfl, lk, hcd⟩ := F.ex
  exact ⟨_, L2H.fn_ofH lk hcd S len fun A outer s H vs Q E p hot hr hsp => hbody cdv A outer s H vs Q E p hot hr ⟨p, ⟨hot.1, hot.2⟩, List.mem_cons_self⟩ (passes_of rfl) hsp, b⟩
end

/-! ### heaps -/
/-- all that was tracked stands, but for ms -/
def Kp (ms : List Addr) (H H' : Hp) : Prop := ∀ a o, H a = some o → a ∉ ms → H' a = some o
theorem Kp.refl {ms : List Addr} {H : Hp} : Kp ms H H := fun _ _ h _ => h
theorem Kp.at {ms : List Addr} {H H' : Hp} {a : Addr} {o : HO} (k : Kp ms H H') (h : H a = some o) (n : a ∉ ms) : H' a = some o := k a o h n
theorem Kp.at0 {H H' : Hp} {a : Addr} {o : HO} (k : Kp [] H H') (h : H a = some o) : H' a = some o := k a o h List.not_mem_nil
theorem Kp.trans {ms : List Addr} {H H1 H2 : Hp} (a : Kp ms H H1) (b : Kp ms H1 H2) : Kp ms H H2 := fun c o h n => b c o (a c o h n) n
theorem Kp.trans0 {ms : List Addr} {H H1 H2 : Hp} (a : Kp ms H H1) (b : Kp [] H1 H2) : Kp ms H H2 := fun c o h n => b c o (a c o h n) List.not_mem_nil
theorem Kp.mono {ms ns : List Addr} {H H1 : Hp} (a : Kp ms H H1) (h : ∀ x ∈ ms, x ∈ ns) : Kp ns H H1 := fun c o e n => a c o e (fun z => n (h c z))
theorem Kp.new {ms : List Addr} {H H1 : Hp} {p : Addr} {o : HO} (k : Kp ms H H1) (h : H1 p = none) : Kp ms H (upd H1 p o) := fun a u e n => by
  rw [upd_ne (ne_of_none (k a u e n) h)]
  exact k a u e n
theorem Kp.mut {ms : List Addr} {H H1 : Hp} {p : Addr} {o : HO} (k : Kp ms H H1) (h : p ∈ ms) : Kp ms H (upd H1 p o) := fun a u e n => by
  rw [upd_ne (fun z => n (by rw [z]; exact h))]
  exact k a u e n
/-- an object that was not there at the beginning is changed -/
theorem Kp.own {ms : List Addr} {H H1 : Hp} {p : Addr} {o : HO} (k : Kp ms H H1) (h : H p = none) : Kp ms H (upd H1 p o) := fun a u e n => by
  rw [upd_ne (ne_of_none e h)]
  exact k a u e n
theorem Kp.free {H H' : Hp} {a : Addr} (k : Kp [] H H') (h : H' a = none) : H a = none := by
  cases q : H a with
  | none => rfl
  | some o => rw [k a o q List.not_mem_nil] at h; cases h
theorem Kp.freeM {ms : List Addr} {H H' : Hp} {a : Addr} (k : Kp ms H H') (h : H' a = none) (hm : ∀ b ∈ ms, ∃ o, H' b = some o) : H a = none := by
  cases q : H a with
  | none => rfl
  | some o =>
    by_cases z : a ∈ ms
    · obtain ⟨o', e⟩ := hm a z
      rw [h] at e; cases e
    · rw [k a o q z] at h; cases h
theorem upd_get {H : Hp} {p a : Addr} {o u : HO} (n : a ≠ p) (h : H a = some u) : upd H p o a = some u := by rw [upd_ne n]; exact h
theorem upd_nil {H : Hp} {p a : Addr} {o : HO} (h : upd H p o a = none) : H a = none := by
  unfold upd at h
  split at h
  · cases h
  · exact h
theorem upd_nel {H : Hp} {p a : Addr} {o : HO} (h : upd H p o a = none) : a ≠ p := fun z => by
  rw [z, upd_same] at h; cases h

/-! ### lists under a map -/
theorem map_getD {α : Type} [Inhabited α] {f : α → V} {xs : List α} {i : Nat} (h : i < xs.length) : (xs.map f)[i]? = some (f (xs.getD i default)) := by
  rw [List.getElem?_map, List.getElem?_eq_getElem h]
  simp [List.getD, List.getElem?_eq_getElem h]
theorem getD_some {α : Type} [Inhabited α] {xs : List α} {i : Nat} (h : i < xs.length) : xs[i]? = some (xs.getD i default) := by
  rw [List.getElem?_eq_getElem h]
  simp [List.getD, List.getElem?_eq_getElem h]
theorem atI_pos {α : Type} {xs : List α} {i : Int} {v : α} (h0 : 0 ≤ i) (h : xs[i.toNat]? = some v) : atI xs i = some v := by
  have e : i = ((i.toNat : Nat) : Int) := by omega
  rw [e]
  exact atI_nat (by simpa using h)
theorem ixN_pos {n : Nat} {i : Int} (h0 : 0 ≤ i) (h : i.toNat < n) : ixN n i = some i.toNat := by
  unfold ixN
  rw [if_pos h0, if_pos (by omega)]
theorem map_set {α : Type} {f : α → V} {xs : List α} {i : Nat} {x : α} : (xs.map f).set i (f x) = (xs.set i x).map f := by
  rw [List.map_set]
theorem map_app {α : Type} {f : α → V} {xs : List α} {x : α} : xs.map f ++ [f x] = (xs ++ [x]).map f := by
  rw [List.map_append]; rfl

/-! ### readings by values -/
/-- a + b -/
def aAdd : R2 := fun x y H Q => rI0 (fun i j => .int (i + j)) x y H Q ∨ (∃ i j, x = .str i ∧ y = .str j ∧ i.length + j.length ≤ sizeLine ∧ Q (.str (i ++ j)) H) ∨ rCat x y H Q
/-- a * b -/
def aMul : R2 := fun x y H Q => rI CMul (fun i j => .int (i * j)) x y H Q ∨ rRep x y H Q
/-- x == y of lists of flat things -/
def aEq (K : PySem.W.Frag) : R2 := fun x y H Q => rEq x y H Q ∨ rEqD K x y H Q
def aNe (K : PySem.W.Frag) : R2 := fun x y H Q => rNe x y H Q ∨ rNeD K x y H Q
section
variable {X : Cx}
theorem o_add : OpR X (binaryOp .Add) aAdd := op_add.or (op_add_str.or op_cat)
theorem o_mul : OpR X (binaryOp .Mult) aMul := op_mul.or op_rep
theorem o_eq (hu : X.A.units + 64 < cLine) : OpR X (compareOp .Eq) (aEq X.K) := op_eq.or (op_eqD hu)
theorem o_ne (hu : X.A.units + 64 < cLine) : OpR X (compareOp .NotEq) (aNe X.K) := op_ne.or (op_neD hu)
end
section
variable {i j : Int} {a b : Str} {p q : Addr} {H : Hp} {Q : VK} {xs ys : List V} {K : PySem.W.Frag}
theorem w_addI (k : Q (.int (i + j)) H) : aAdd (.int i) (.int j) H Q := .inl ⟨i, j, rfl, rfl, k⟩
theorem w_addS (h : a.length + b.length ≤ sizeLine) (k : Q (.str (a ++ b)) H) : aAdd (.str a) (.str b) H Q := .inr (.inl ⟨a, b, rfl, rfl, h, k⟩)
theorem w_addLM {α : Type} {f : α → V} {us vs : List α} (hp : H p = some (.lst (us.map f))) (hq : H q = some (.lst (vs.map f))) (hl : us.length + vs.length ≤ sizeLine) (k : ∀ r, H r = none → Q (.ref r) (upd H r (.lst ((us ++ vs).map f)))) : aAdd (.ref p) (.ref q) H Q :=
  .inr (.inr ⟨p, q, _, _, rfl, rfl, hp, hq, by simpa using hl, fun r hr => by rw [← List.map_append]; exact k r hr⟩)
theorem w_addL (hp : H p = some (.lst xs)) (hq : H q = some (.lst ys)) (hl : xs.length + ys.length ≤ sizeLine) (k : ∀ r, H r = none → Q (.ref r) (upd H r (.lst (xs ++ ys)))) : aAdd (.ref p) (.ref q) H Q :=
  .inr (.inr ⟨p, q, _, _, rfl, rfl, hp, hq, hl, k⟩)
theorem w_mulI (h : CMul i j) (k : Q (.int (i * j)) H) : aMul (.int i) (.int j) H Q := .inl ⟨i, j, rfl, rfl, h, k⟩
theorem rep_map {α : Type} {f : α → V} {x : α} {n : Nat} : (List.replicate n [f x]).flatten = (List.replicate n x).map f := by
  induction n with
  | zero => rfl
  | succ n ih => rw [List.replicate_succ, List.flatten_cons, ih, List.replicate_succ]; rfl
theorem w_repI (hp : H p = some (.lst [.int i])) (h1 : -(2 ^ 63) ≤ j) (h2 : j < 2 ^ 63) (h3 : j.toNat ≤ sizeLine) (k : ∀ r, H r = none → Q (.ref r) (upd H r (.lst ((List.replicate j.toNat i).map V.int)))) : aMul (.ref p) (.int j) H Q :=
  .inr ⟨p, j, _, rfl, rfl, hp, h1, h2, by simpa using h3, fun r hr => by rw [rep_map (f := V.int)]; exact k r hr⟩
theorem w_repB {c : Bool} (hp : H p = some (.lst [.bl c])) (h1 : -(2 ^ 63) ≤ j) (h2 : j < 2 ^ 63) (h3 : j.toNat ≤ sizeLine) (k : ∀ r, H r = none → Q (.ref r) (upd H r (.lst ((List.replicate j.toNat c).map V.bl)))) : aMul (.ref p) (.int j) H Q :=
  .inr ⟨p, j, _, rfl, rfl, hp, h1, h2, by simpa using h3, fun r hr => by rw [rep_map (f := V.bl)]; exact k r hr⟩
theorem w_I0 {g : Int → Int → V} (k : Q (g i j) H) : rI0 g (.int i) (.int j) H Q := ⟨i, j, rfl, rfl, k⟩
theorem w_I {C : Int → Int → Prop} {g : Int → Int → V} (c : C i j) (k : Q (g i j) H) : rI C g (.int i) (.int j) H Q := ⟨i, j, rfl, rfl, c, k⟩
theorem w_U {g : Int → V} (k : Q (g i) H) : rU g (.int i) H Q := ⟨i, rfl, k⟩
theorem dI : decide (V.int i = V.int j) = decide (i = j) := by simp
theorem dS : decide (V.str a = V.str b) = decide (a = b) := by simp
theorem dB {c d : Bool} : decide (V.bl c = V.bl d) = decide (c = d) := by simp
theorem w_eqI (k : Q (.bl (decide (i = j))) H) : aEq K (.int i) (.int j) H Q := .inl ⟨rfl, by rw [dI]; exact k⟩
theorem w_eqS (k : Q (.bl (decide (a = b))) H) : aEq K (.str a) (.str b) H Q := .inl ⟨rfl, by rw [dS]; exact k⟩
theorem w_eqB {c d : Bool} (k : Q (.bl (decide (c = d))) H) : aEq K (.bl c) (.bl d) H Q := .inl ⟨rfl, by rw [dB]; exact k⟩
theorem w_neI (k : Q (.bl (!decide (i = j))) H) : aNe K (.int i) (.int j) H Q := .inl ⟨rfl, by rw [dI]; exact k⟩
theorem w_neS (k : Q (.bl (!decide (a = b))) H) : aNe K (.str a) (.str b) H Q := .inl ⟨rfl, by rw [dS]; exact k⟩
theorem w_neB {c d : Bool} (k : Q (.bl (!decide (c = d))) H) : aNe K (.bl c) (.bl d) H Q := .inl ⟨rfl, by rw [dB]; exact k⟩

theorem eqvAll_int : ∀ (ns ms : List Int), PyData.eqvAll (ns.map PyData.int) (ms.map PyData.int) = decide (ns = ms) := by
  intro ns
  induction ns with
  | nil => intro ms; cases ms <;> simp [PyData.eqvAll]
  | cons n ns ih =>
    intro ms
    cases ms with
    | nil => simp [PyData.eqvAll]
    | cons m ms =>
      rw [List.map_cons, List.map_cons, PyData.eqvAll, ih, PyData.eqv, Bool.eq_iff_iff]
      simp
theorem dpAllI : ∀ (ns : List Int), DpAll K H (ns.map V.int) (ns.map PyData.int)
  | [] => .nil
  | n :: ns => .cons (.int n) (dpAllI ns)
theorem shapedI (ns : List Int) : SeqAt.shaped (.list (ns.map PyData.int)) = true := by
  have h1 : ∀ ns : List Int, PyData.canLayAll0 (ns.map PyData.int) = true := by
    intro ns
    induction ns with
    | nil => rfl
    | cons n ns ih => rw [List.map_cons, PyData.canLayAll0, ih]; rfl
  have h2 : ∀ ns : List Int, PyData.depthAll (ns.map PyData.int) = 0 := by
    intro ns
    induction ns with
    | nil => rfl
    | cons n ns ih => rw [List.map_cons, PyData.depthAll, ih]; rfl
  unfold SeqAt.shaped
  rw [PyData.canLay0, h1, PyData.depth, h2]
  decide
theorem w_eqLI {ns ms : List Int} (hp : SqL K H p (ns.map V.int)) (hq : SqL K H q (ms.map V.int)) (k : Q (.bl (decide (ns = ms))) H) : aEq K (.ref p) (.ref q) H Q :=
  .inr ⟨_, _, .lst hp (dpAllI ns), .lst hq (dpAllI ms), shapedI ns, shapedI ms, by rw [PyData.eqv, eqvAll_int]; exact k⟩
theorem w_neLI {ns ms : List Int} (hp : SqL K H p (ns.map V.int)) (hq : SqL K H q (ms.map V.int)) (k : Q (.bl (!decide (ns = ms))) H) : aNe K (.ref p) (.ref q) H Q :=
  .inr ⟨_, _, .lst hp (dpAllI ns), .lst hq (dpAllI ms), shapedI ns, shapedI ms, by rw [PyData.eqv, eqvAll_int]; exact k⟩
end
/-- is None -/
def aIsN : R2 := fun x y H Q => y = .non ∧ Q (.bl (decide (x = .non))) H
def aNotN : R2 := fun x y H Q => y = .non ∧ Q (.bl (!decide (x = .non))) H
theorem o_isN {X : Cx} : OpR X (compareOp .Is) aIsN := op_isN
theorem o_notN {X : Cx} : OpR X (compareOp .IsNot) aNotN := op_notN
section
variable {i j : Int} {a b : Str} {p q : Addr} {H : Hp} {Q : VK} {xs ys : List V} {K : PySem.W.Frag} {x v : V}
theorem w_isN_n (k : Q (.bl true) H) : aIsN .non .non H Q := ⟨rfl, k⟩
theorem w_isN_i (k : Q (.bl false) H) : aIsN (.int i) .non H Q := ⟨rfl, k⟩
theorem w_isN_r (k : Q (.bl false) H) : aIsN (.ref p) .non H Q := ⟨rfl, k⟩
theorem w_isN_s (k : Q (.bl false) H) : aIsN (.str a) .non H Q := ⟨rfl, k⟩
theorem w_notN_n (k : Q (.bl false) H) : aNotN .non .non H Q := ⟨rfl, k⟩
theorem w_notN_i (k : Q (.bl true) H) : aNotN (.int i) .non H Q := ⟨rfl, k⟩
theorem w_notN_r (k : Q (.bl true) H) : aNotN (.ref p) .non H Q := ⟨rfl, k⟩
theorem w_notN_s (k : Q (.bl true) H) : aNotN (.str a) .non H Q := ⟨rfl, k⟩
/-! x[i] -/
theorem w_ixC {xs : List V} {n : Nat} (hp : H p = some (.lst xs)) (hv : xs[n]? = some v) (k : Q v H) : rIx K (.ref p) (.int (n : Int)) H Q := .inl ⟨p, _, _, v, rfl, rfl, SqL.of hp, atI_nat hv, k⟩
theorem w_ixM {α : Type} [Inhabited α] {f : α → V} {us : List α} (hp : H p = some (.lst (us.map f))) (h0 : 0 ≤ i) (hl : i.toNat < us.length) (k : Q (f (us.getD i.toNat default)) H) : rIx K (.ref p) (.int i) H Q :=
  .inl ⟨p, _, _, _, rfl, rfl, SqL.of hp, atI_pos h0 (map_getD hl), k⟩
theorem w_ixL (hp : H p = some (.lst xs)) (h0 : 0 ≤ i) (hv : xs[i.toNat]? = some v) (k : Q v H) : rIx K (.ref p) (.int i) H Q :=
  .inl ⟨p, _, _, v, rfl, rfl, SqL.of hp, atI_pos h0 hv, k⟩
theorem w_ixT (hp : H p = some (.tup xs)) (h0 : 0 ≤ i) (hv : xs[i.toNat]? = some v) (k : Q v H) : rIx K (.ref p) (.int i) H Q :=
  .inr (.inl ⟨p, _, _, v, rfl, rfl, .inl (.inl hp), atI_pos h0 hv, k⟩)
theorem w_ixS {c : Nat} (hl : a.length ≤ sizeLine) (h0 : 0 ≤ i) (hv : a.cps.toList[i.toNat]? = some c) (k : Q (.str ⟨#[c]⟩) H) : rIx K (.str a) (.int i) H Q :=
  .inr (.inr ⟨a, _, c, rfl, rfl, hl, atI_pos h0 hv, k⟩)
/-! x[i] = v -/
theorem w_setM {α : Type} {f : α → V} {us : List α} {u : α} {Q : Hp → Prop} (hp : H p = some (.lst (us.map f))) (h0 : 0 ≤ i) (hl : i.toNat < us.length) (k : Q (upd H p (.lst ((us.set i.toNat u).map f)))) : rSetL (.ref p) (.int i) (f u) H Q :=
  ⟨p, _, _, i.toNat, rfl, rfl, hp, ixN_pos h0 (by simpa using hl), by rw [map_set]; exact k⟩
theorem w_setMI {us : List Int} {u : Int} {Q : Hp → Prop} (hp : H p = some (.lst (us.map V.int))) (h0 : 0 ≤ i) (hl : i.toNat < us.length) (k : Q (upd H p (.lst ((us.set i.toNat u).map V.int)))) : rSetL (.ref p) (.int i) (.int u) H Q := w_setM hp h0 hl k
theorem w_setMB {us : List Bool} {u : Bool} {Q : Hp → Prop} (hp : H p = some (.lst (us.map V.bl))) (h0 : 0 ≤ i) (hl : i.toNat < us.length) (k : Q (upd H p (.lst ((us.set i.toNat u).map V.bl)))) : rSetL (.ref p) (.int i) (.bl u) H Q := w_setM hp h0 hl k
theorem w_setMS {us : List Str} {u : Str} {Q : Hp → Prop} (hp : H p = some (.lst (us.map V.str))) (h0 : 0 ≤ i) (hl : i.toNat < us.length) (k : Q (upd H p (.lst ((us.set i.toNat u).map V.str)))) : rSetL (.ref p) (.int i) (.str u) H Q := w_setM hp h0 hl k
theorem w_setL {u : V} {Q : Hp → Prop} (hp : H p = some (.lst xs)) (h0 : 0 ≤ i) (hl : i.toNat < xs.length) (k : Q (upd H p (.lst (xs.set i.toNat u)))) : rSetL (.ref p) (.int i) u H Q :=
  ⟨p, _, _, i.toNat, rfl, rfl, hp, ixN_pos h0 hl, k⟩
/-! methods of lists: the type is asked first -/
theorem w_tyL (hp : H p = some (.lst xs)) (k : A) : tyV K "list" (.ref p) H ∧ A := ⟨.inl ⟨rfl, _, SqL.of hp⟩, k⟩
theorem w_tyS (k : A) : tyV K "str" (.str a) H ∧ A := ⟨rfl, k⟩
theorem w_appMI {us : List Int} {u : Int} (hp : H p = some (.lst (us.map V.int))) (hl : us.length < sizeLine) (k : Q .non (upd H p (.lst ((us ++ [u]).map V.int)))) : rAppend (.ref p) [.int u] H Q := ⟨p, _, _, rfl, rfl, hp, by simpa using hl, by rw [map_app (f := V.int)]; exact k⟩
theorem w_appMS {us : List Str} {u : Str} (hp : H p = some (.lst (us.map V.str))) (hl : us.length < sizeLine) (k : Q .non (upd H p (.lst ((us ++ [u]).map V.str)))) : rAppend (.ref p) [.str u] H Q := ⟨p, _, _, rfl, rfl, hp, by simpa using hl, by rw [map_app (f := V.str)]; exact k⟩
theorem w_appMB {us : List Bool} {u : Bool} (hp : H p = some (.lst (us.map V.bl))) (hl : us.length < sizeLine) (k : Q .non (upd H p (.lst ((us ++ [u]).map V.bl)))) : rAppend (.ref p) [.bl u] H Q := ⟨p, _, _, rfl, rfl, hp, by simpa using hl, by rw [map_app (f := V.bl)]; exact k⟩
theorem w_appL {u : V} (hp : H p = some (.lst xs)) (hl : xs.length < sizeLine) (k : Q .non (upd H p (.lst (xs ++ [u])))) : rAppend (.ref p) [u] H Q := ⟨p, _, _, rfl, rfl, hp, hl, k⟩
theorem w_rev (hp : H p = some (.lst xs)) (k : Q .non (upd H p (.lst xs.reverse))) : rReverse (.ref p) [] H Q := ⟨p, _, rfl, rfl, hp, k⟩
def rInsert : V → List V → Hp → VK → Prop := fun x vs H Q => ∃ (l : Addr) (xs : List V) (i : Int) (y : V), x = .ref l ∧ vs = [.int i, y] ∧ H l = some (.lst xs) ∧ xs.length < sizeLine ∧ 0 ≤ i ∧ i < 2 ^ 63 ∧ Q .non (upd H l (.lst (xs.take i.toNat ++ [y] ++ xs.drop i.toNat)))
theorem m_insert {X : Cx} : MtR X "list.insert" rInsert := mt_insert
def insAt {α : Type} (us : List α) (n : Nat) (u : α) : List α := us.take n ++ [u] ++ us.drop n
theorem w_insMI {us : List Int} {u : Int} (hp : H p = some (.lst (us.map V.int))) (hl : us.length < sizeLine) (h0 : 0 ≤ i) (h1 : i < 2 ^ 63) (k : Q .non (upd H p (.lst ((insAt us i.toNat u).map V.int)))) : rInsert (.ref p) [.int i, .int u] H Q :=
  ⟨p, _, _, _, rfl, rfl, hp, by simpa using hl, h0, h1, by rw [← List.map_take, ← List.map_drop, map_app (f := V.int), ← List.map_append]; exact k⟩
theorem w_insMS {us : List Str} {u : Str} (hp : H p = some (.lst (us.map V.str))) (hl : us.length < sizeLine) (h0 : 0 ≤ i) (h1 : i < 2 ^ 63) (k : Q .non (upd H p (.lst ((insAt us i.toNat u).map V.str)))) : rInsert (.ref p) [.int i, .str u] H Q :=
  ⟨p, _, _, _, rfl, rfl, hp, by simpa using hl, h0, h1, by rw [← List.map_take, ← List.map_drop, map_app (f := V.str), ← List.map_append]; exact k⟩
/-! built-ins -/
def rLen (K : PySem.W.Frag) : List V → Hp → VK → Prop := fun xs H Q => ∃ x n, xs = [x] ∧ LenV K x H n ∧ Q (.int n) H
theorem b_len {X : Cx} : CallR X (.builtin "len") (rLen X.K) := call_len
theorem w_lenL (hp : H p = some (.lst xs)) (k : Q (.int xs.length) H) : rLen K [.ref p] H Q := ⟨_, _, rfl, .inl ⟨_, SqL.of hp, rfl⟩, k⟩
theorem w_lenM {α : Type} {f : α → V} {us : List α} (hp : H p = some (.lst (us.map f))) (k : Q (.int us.length) H) : rLen K [.ref p] H Q := ⟨_, _, rfl, .inl ⟨_, SqL.of hp, rfl⟩, by rw [List.length_map]; exact k⟩
theorem w_lenT (hp : H p = some (.tup xs)) (k : Q (.int xs.length) H) : rLen K [.ref p] H Q := ⟨_, _, rfl, .inr ⟨_, .inl (.inl hp), rfl⟩, k⟩
theorem w_lenS (hl : a.length ≤ sizeLine) (k : Q (.int a.length) H) : rLen K [.str a] H Q := ⟨_, _, rfl, ⟨hl, rfl⟩, k⟩
def rAbs : List V → Hp → VK → Prop := fun xs H Q => ∃ i, xs = [.int i] ∧ Q (.int (if i < 0 then -i else i)) H
theorem b_abs {X : Cx} : CallR X (.builtin "abs") rAbs := call_abs
theorem abs_nat (i : Int) : (if i < 0 then -i else i) = (i.natAbs : Int) := by split <;> omega
theorem w_abs (k : Q (.int (i.natAbs : Int)) H) : rAbs [.int i] H Q := ⟨i, rfl, by rw [abs_nat]; exact k⟩
def rMax2 : List V → Hp → VK → Prop := fun xs H Q => ∃ i j, xs = [.int i, .int j] ∧ Q (.int (if j > i then j else i)) H
def rMin2 : List V → Hp → VK → Prop := fun xs H Q => ∃ i j, xs = [.int i, .int j] ∧ Q (.int (if j < i then j else i)) H
theorem b_max2 {X : Cx} (hc : X.calm = true) : CallR X (.builtin "max") rMax2 := call_max2 hc
theorem b_min2 {X : Cx} (hc : X.calm = true) : CallR X (.builtin "min") rMin2 := call_min2 hc
theorem w_max2 (k : Q (.int (max i j)) H) : rMax2 [.int i, .int j] H Q := ⟨i, j, rfl, by rw [show (if j > i then j else i) = max i j by split <;> omega]; exact k⟩
theorem w_min2 (k : Q (.int (min i j)) H) : rMin2 [.int i, .int j] H Q := ⟨i, j, rfl, by rw [show (if j < i then j else i) = min i j by split <;> omega]; exact k⟩
def rInt1 : List V → Hp → VK → Prop := fun xs H Q => (∃ i, xs = [.int i] ∧ Q (.int i) H) ∨ ∃ k, xs = [.bl k] ∧ Q (.int (if k then 1 else 0)) H
theorem b_int {X : Cx} : CallR X (.type "int") rInt1 := call_int1
theorem w_int (k : Q (.int i) H) : rInt1 [.int i] H Q := .inl ⟨i, rfl, k⟩
def rListOf (K : PySem.W.Frag) : List V → Hp → VK → Prop := fun xs H Q => ∃ p ys, xs = [.ref p] ∧ (SqL K H p ys ∨ SqT K H p ys) ∧ ∀ l, H l = none → Q (.ref l) (upd H l (.lst ys))
theorem b_list {X : Cx} : CallR X (.type "list") (rListOf X.K) := call_list_of
theorem w_listL (hp : H p = some (.lst xs)) (k : ∀ l, H l = none → Q (.ref l) (upd H l (.lst xs))) : rListOf K [.ref p] H Q := ⟨p, _, rfl, .inl (SqL.of hp), k⟩
theorem w_listT (hp : H p = some (.tup xs)) (k : ∀ l, H l = none → Q (.ref l) (upd H l (.lst xs))) : rListOf K [.ref p] H Q := ⟨p, _, rfl, .inr (.inl (.inl hp)), k⟩
/-! isinstance -/
section
variable {n : String} {c : Bool}
theorem w_isiI (e : kitB "int" n = some c) (k : Q (.bl c) H) : rIsi K [.int i, .ty n] H Q := ⟨_, _, _, _, c, rfl, .ty n, .base (.int i), kit_ty e, k⟩
theorem w_isiB {d : Bool} (e : kitB "bool" n = some c) (k : Q (.bl c) H) : rIsi K [.bl d, .ty n] H Q := ⟨_, _, _, _, c, rfl, .ty n, .base (.bl d), kit_ty e, k⟩
theorem w_isiS (e : kitB "str" n = some c) (k : Q (.bl c) H) : rIsi K [.str a, .ty n] H Q := ⟨_, _, _, _, c, rfl, .ty n, .base (.str a), kit_ty e, k⟩
theorem w_isiN (e : kitB "NoneType" n = some c) (k : Q (.bl c) H) : rIsi K [.non, .ty n] H Q := ⟨_, _, _, _, c, rfl, .ty n, .base .non, kit_ty e, k⟩
theorem w_isiL (hp : H p = some (.lst xs)) (e : kitB "list" n = some c) (k : Q (.bl c) H) : rIsi K [.ref p, .ty n] H Q := ⟨_, _, _, _, c, rfl, .ty n, .base (.lst hp), kit_ty e, k⟩
theorem w_isiT (hp : H p = some (.tup xs)) (e : kitB "tuple" n = some c) (k : Q (.bl c) H) : rIsi K [.ref p, .ty n] H Q := ⟨_, _, _, _, c, rfl, .ty n, .base (.tup hp), kit_ty e, k⟩
end
theorem kb_ii : kitB "int" "int" = some true := by decide +kernel
theorem kb_ib : kitB "int" "bool" = some false := by decide +kernel
theorem kb_is : kitB "int" "str" = some false := by decide +kernel
theorem kb_il : kitB "int" "list" = some false := by decide +kernel
theorem kb_it : kitB "int" "tuple" = some false := by decide +kernel
theorem kb_bi : kitB "bool" "int" = some true := by decide +kernel
theorem kb_bb : kitB "bool" "bool" = some true := by decide +kernel
theorem kb_bt : kitB "bool" "tuple" = some false := by decide +kernel
theorem kb_ss : kitB "str" "str" = some true := by decide +kernel
theorem kb_si : kitB "str" "int" = some false := by decide +kernel
theorem kb_st : kitB "str" "tuple" = some false := by decide +kernel
theorem kb_sl : kitB "str" "list" = some false := by decide +kernel
theorem kb_ll : kitB "list" "list" = some true := by decide +kernel
theorem kb_lt : kitB "list" "tuple" = some false := by decide +kernel
theorem kb_li : kitB "list" "int" = some false := by decide +kernel
theorem kb_tt : kitB "tuple" "tuple" = some true := by decide +kernel
theorem kb_tl : kitB "tuple" "list" = some false := by decide +kernel
theorem kb_nt : kitB "NoneType" "tuple" = some false := by decide +kernel
theorem kb_ni : kitB "NoneType" "int" = some false := by decide +kernel
theorem kb_nl : kitB "NoneType" "list" = some false := by decide +kernel
theorem kb_ns : kitB "NoneType" "str" = some false := by decide +kernel

/-! truth, tests -/
/-- a value's truth -/
def aTru (K : PySem.W.Frag) : V → Hp → (Bool → Hp → Prop) → Prop := fun x H Q => ∃ k, TruV K x H k ∧ Q k H
def cTru (K : PySem.W.Frag) (ta : TE) : TT := fun σ H Q => ta σ H fun x H' => aTru K x H' Q
theorem pt_tru {X : Cx} {e : Expr} {ta : TE} (ha : PE X e ta) (he : ∀ whole, isTrue e X.env whole = (do let v ← whole; standAt e.pos; holding [v] (truthy v)) := by intro _; rfl) : PT X e (cTru X.K ta) := pt_truth ha he
section
variable {R : Bool → Hp → Prop} {c : Bool}
theorem w_truB (k : R c H) : aTru K (.bl c) H R := ⟨c, rfl, k⟩
theorem w_truI (k : R (i != 0) H) : aTru K (.int i) H R := ⟨_, rfl, k⟩
theorem w_truN (k : R false H) : aTru K .non H R := ⟨_, rfl, k⟩
theorem w_truS (hl : a.length ≤ sizeLine) (k : R ((a.length : Int) != 0) H) : aTru K (.str a) H R := ⟨_, ⟨hl, rfl⟩, k⟩
theorem w_truL (hp : H p = some (.lst xs)) (k : R (!xs.isEmpty) H) : aTru K (.ref p) H R := ⟨_, .inl ⟨_, SqL.of hp, rfl⟩, k⟩
theorem w_truT (hp : H p = some (.tup xs)) (k : R (!xs.isEmpty) H) : aTru K (.ref p) H R := ⟨_, .inr (.inl ⟨_, .inl (.inl hp), rfl⟩), k⟩
end
def aB (x : V) (H : Hp) (R : Bool → Hp → Prop) : Prop := ∃ k, x = .bl k ∧ R k H
def cB (t : TE) : TT := fun σ H Q => t σ H fun x H' => aB x H' Q
theorem pt_cmpA {X : Cx} {op : CmpOp} {r : R2} {e1 e2 : Expr} {ta tb : TE} {pos : Pos} (ho : OpR X (compareOp op) r) (ha : PE X e1 ta) (hb : PE X e2 tb) (hm : behindInMarks op e2 = false) : PT X (.Compare e1 [op] [e2] pos) (cB (tOp r ta tb)) := pt_cmpR ho ha hb hm
theorem pt_chainA {X : Cx} {op op' : CmpOp} {r r' : R2} {e1 e2 e3 : Expr} {ta tb tc : TE} {pos : Pos} (ho : OpR X (compareOp op) r) (ho' : OpR X (compareOp op') r') (ha : PE X e1 ta) (hb : PE X e2 tb) (hc : PE X e3 tc) (hm : lastMarks [op, op'] [e2, e3] = false := by with_unfolding_all rfl) :
    PT X (.Compare e1 [op, op'] [e2, e3] pos) (cB (tChain r r' ta tb tc)) := pt_chain ho ho' ha hb hc hm
theorem w_B {c : Bool} {R : Bool → Hp → Prop} (k : R c H) : aB (.bl c) H R := ⟨c, rfl, k⟩
end
/-! ### ifs -/
section
variable {A B : Prop} {p : Prop} [Decidable p]
theorem w_ite (h1 : p → A) (h2 : ¬p → B) : if decide p = true then A else B := by
  by_cases h : p
  · rw [if_pos (by simpa using h)]; exact h1 h
  · rw [if_neg (by simpa using h)]; exact h2 h
theorem w_iteT (h : p) (k : A) : if decide p = true then A else B := by rw [if_pos (by simpa using h)]; exact k
theorem w_iteF (h : ¬p) (k : B) : if decide p = true then A else B := by rw [if_neg (by simpa using h)]; exact k
theorem w_iteN (h1 : ¬p → A) (h2 : p → B) : if (!decide p) = true then A else B := by
  by_cases h : p
  · rw [if_neg (by simpa using h)]; exact h2 h
  · rw [if_pos (by simpa using h)]; exact h1 h
theorem w_iteNT (h : ¬p) (k : A) : if (!decide p) = true then A else B := by rw [if_pos (by simpa using h)]; exact k
theorem w_iteNF (h : p) (k : B) : if (!decide p) = true then A else B := by rw [if_neg (by simpa using h)]; exact k
theorem w_ite1 (k : A) : if true = true then A else B := by rw [if_pos rfl]; exact k
theorem w_ite0 (k : B) : if false = true then A else B := by rw [if_neg Bool.false_ne_true]; exact k
theorem w_iteb {b : Bool} (h1 : b = true → A) (h2 : b = false → B) : if b = true then A else B := by
  cases b
  · rw [if_neg Bool.false_ne_true]; exact h2 rfl
  · rw [if_pos rfl]; exact h1 rfl
theorem w_itebT {b : Bool} (h : b = true) (k : A) : if b = true then A else B := by rw [if_pos h]; exact k
theorem w_itebF {b : Bool} (h : b = false) (k : B) : if b = true then A else B := by rw [h, if_neg Bool.false_ne_true]; exact k
theorem w_itenb {b : Bool} (h1 : b = false → A) (h2 : b = true → B) : if (!b) = true then A else B := by
  cases b
  · rw [if_pos (by decide)]; exact h1 rfl
  · rw [if_neg (by decide)]; exact h2 rfl
theorem w_itenbT {b : Bool} (h : b = false) (k : A) : if (!b) = true then A else B := by rw [h, if_pos (by decide)]; exact k
theorem w_itenbF {b : Bool} (h : b = true) (k : B) : if (!b) = true then A else B := by rw [h, if_neg (by decide)]; exact k
end
/-! ### structure: what a reading says, one step -/
section
variable {σ σ' : St} {H : Hp} {Q : VK} {D : Ends} {ta tb : TE} {t u : TT} {tl tr : TA} {ts us : TS} {g : TG} {gs : TGs} {r : R2} {i : Nat} {v : V} {K : PySem.W.Frag}
theorem s_var (h : σ[i]? = some (some v)) (k : Q v H) : tVar i σ H Q := ⟨v, h, k⟩
theorem s_c (k : Q v H) : tC v σ H Q := k
theorem s_op (k : ta σ H fun x H1 => tb σ H1 fun y H2 => r x y H2 Q) : tOp r ta tb σ H Q := k
theorem s_un {r : V → Hp → VK → Prop} (k : ta σ H fun x H1 => r x H1 Q) : tUn r ta σ H Q := k
theorem s_nil {Q : List V → Hp → Prop} (k : Q [] H) : tNil σ H Q := k
theorem s_cons {Q : List V → Hp → Prop} (k : ta σ H fun x H1 => tl σ H1 fun xs H2 => Q (x :: xs) H2) : tCons ta tl σ H Q := k
theorem s_callS {sp : Sp} {E : St → XK} (k : tl σ H fun vs H1 => sp vs H1 Q (E σ)) : tCallS sp E tl σ H Q := k
theorem s_CB {r : List V → Hp → VK → Prop} (k : tl σ H fun vs H1 => r vs H1 Q) : tCB r tl σ H Q := k
theorem s_BM {T : String} {r : V → List V → Hp → VK → Prop} (k : ta σ H fun x H1 => tyV K T x H1 ∧ tl σ H1 fun xs H2 => r x xs H2 Q) : tBM K T r ta tl σ H Q := k
theorem s_BM0 {T : String} {r : V → List V → Hp → VK → Prop} (k : ta σ H fun x H1 => tyV K T x H1 ∧ r x [] H1 Q) : tBM0 K T r ta σ H Q := k
theorem s_seq (k : ts { D with nx := us D } σ H) : tSeq ts us D σ H := k
theorem s_next (k : D.nx σ H) : tNext D σ H := k
theorem s_asg (k : ta σ H fun x H1 => g x σ H1 D.nx) : tAsg ta g D σ H := k
theorem s_name {Q : St → Hp → Prop} (e : σ.set i (some v) = σ') (k : Q σ' H) : gName i v σ H Q := by
  show Q (σ.set i (some v)) H
  rw [e]; exact k
theorem s_sub {to ti : TE} {t : TSet} {Q : St → Hp → Prop} (k : to σ H fun o H1 => ti σ H1 fun i H2 => t o i v H2 fun H3 => Q σ H3) : gSub to ti t v σ H Q := k
theorem s_ret (k : ta σ H D.rt) : tRet ta D σ H := k
theorem s_retN (k : D.rt .non H) : tRetN D σ H := k
theorem s_drop (k : ta σ H fun _ H1 => D.nx σ H1) : tDrop ta D σ H := k
theorem s_ifS (k : t σ H fun b H1 => if b = true then ts D σ H1 else us D σ H1) : tIfS t ts us D σ H := k
theorem s_if (k : t σ H fun b H1 => if b = true then ta σ H1 Q else tb σ H1 Q) : tIf t ta tb σ H Q := k
theorem s_tru {Q : Bool → Hp → Prop} (k : ta σ H fun x H1 => aTru K x H1 Q) : cTru K ta σ H Q := k
theorem s_B {Q : Bool → Hp → Prop} (k : ta σ H fun x H1 => aB x H1 Q) : cB ta σ H Q := k
theorem s_and {Q : Bool → Hp → Prop} (k : t σ H fun c H1 => if c = true then u σ H1 Q else Q false H1) : tAnd t u σ H Q := k
theorem s_or {Q : Bool → Hp → Prop} (k : t σ H fun c H1 => if c = true then Q true H1 else u σ H1 Q) : tOr t u σ H Q := k
theorem s_not {Q : Bool → Hp → Prop} (k : t σ H fun c H1 => Q (!c) H1) : tNot t σ H Q := k
theorem s_andV (k : ta σ H fun x H1 => aB x H1 fun c H2 => if c = true then tb σ H2 Q else Q (.bl false) H2) : tAndV ta tb σ H Q := k
theorem s_orV (k : ta σ H fun x H1 => aB x H1 fun c H2 => if c = true then Q (.bl true) H2 else tb σ H2 Q) : tOrV ta tb σ H Q := k
theorem s_notV (k : ta σ H fun x H1 => aB x H1 fun c H2 => Q (.bl (!c)) H2) : tNotV ta σ H Q := k
theorem s_lst (k : tl σ H fun xs H1 => xs.length ≤ sizeLine ∧ ∀ p, H1 p = none → Q (.ref p) (upd H1 p (.lst xs))) : tLst tl σ H Q := k
theorem s_tup (k : tl σ H fun xs H1 => xs.length ≤ sizeLine ∧ ∀ p, H1 p = none → Q (.ref p) (upd H1 p (.tup xs))) : tTup tl σ H Q := k
theorem s_chain {r' : R2} {tc : TE} (k : ta σ H fun x H1 => tb σ H1 fun y H2 => r x y H2 fun z H3 => aB z H3 fun c H4 => if c = true then tc σ H4 fun w' H5 => r' y w' H5 Q else Q (.bl false) H4) : tChain r r' ta tb tc σ H Q := by
  unfold tChain
  have hm := k
  exact k
end
/-! ### slices -/
def rSlA (K : PySem.W.Frag) : V → Option Int → Option Int → Hp → VK → Prop := fun x lo hi H Q => rSlL K x lo hi H Q ∨ rSlS x lo hi H Q ∨ rSlT K x lo hi H Q
theorem sl_any {X : Cx} : SlR X (rSlA X.K) := sl_list.or (sl_str.or sl_tup)
theorem not_mem2 {a b : Addr} {l : List Addr} (h : a ≠ b) (h2 : a ∉ l) : a ∉ b :: l := fun z => by
  rcases List.mem_cons.mp z with z | z
  · exact h z
  · exact h2 z
theorem w_new {n : Nat} {B : Prop} (h : n ≤ sizeLine) (k : B) : n ≤ sizeLine ∧ B := ⟨h, k⟩
/-- the part of a list from lo to hi -/
def cut {α : Type} (xs : List α) (lo hi : Option Int) : List α := (xs.drop (HT.sIx xs.length 0 lo)).take (HT.sIx xs.length xs.length hi - HT.sIx xs.length 0 lo)
theorem cutV_map {α : Type} {f : α → V} {us : List α} {lo hi : Option Int} : cutV (us.map f) lo hi = (cut us lo hi).map f := by
  unfold cutV cut
  rw [List.length_map, List.map_take, List.map_drop]
section
variable {σ : St} {H : Hp} {Q : VK} {te : TE} {K : PySem.W.Frag} {p : Addr} {lo hi : Option Int} {xs : List V} {z : Str}
theorem s_sl {r : V → Option Int → Option Int → Hp → VK → Prop} {tl th : TO} (k : te σ H fun x H1 => tl σ H1 fun l H2 => th σ H2 fun u H3 => r x l u H3 Q) : tSl r te tl th σ H Q := k
theorem s_nopart {R : Option Int → Hp → Prop} (k : R none H) : tNoPart σ H R := k
def aPart (R : Option Int → Hp → Prop) : VK := fun x H1 => ∃ i, x = .int i ∧ R (some i) H1
theorem s_part {R : Option Int → Hp → Prop} (k : te σ H (aPart R)) : tPart te σ H R := k
theorem w_part {i : Int} {R : Option Int → Hp → Prop} (k : R (some i) H) : aPart R (.int i) H := ⟨i, rfl, k⟩
theorem w_slM {α : Type} {f : α → V} {us : List α} (hp : H p = some (.lst (us.map f))) (k : ∀ r, H r = none → Q (.ref r) (upd H r (.lst ((cut us lo hi).map f)))) : rSlA K (.ref p) lo hi H Q :=
  .inl ⟨p, _, rfl, SqL.of hp, fun r hr => by rw [cutV_map]; exact k r hr⟩
theorem w_slL (hp : H p = some (.lst xs)) (k : ∀ r, H r = none → Q (.ref r) (upd H r (.lst (cutV xs lo hi)))) : rSlA K (.ref p) lo hi H Q :=
  .inl ⟨p, _, rfl, SqL.of hp, k⟩
theorem w_slQ {α : Type} {f : α → V} {us : List α} (hp : SqL K H p (us.map f)) (k : ∀ r, H r = none → Q (.ref r) (upd H r (.lst ((cut us lo hi).map f)))) : rSlA K (.ref p) lo hi H Q :=
  .inl ⟨p, _, rfl, hp, fun r hr => by rw [cutV_map]; exact k r hr⟩
theorem w_slS (hl : z.length ≤ sizeLine) (k : Q (.str (cutS z lo hi)) H) : rSlA K (.str z) lo hi H Q := .inr (.inl ⟨z, rfl, hl, k⟩)
end
end Lk
namespace Lk
open PySem PySem.Spec PyProof.Rows L2

/-! ### for -/
/-- what is asked once the iterator J stands -/
def aLoop (J : It) (g : TG) (tb : TS) (D : Ends) (σ : St) (H1 : Hp) : Prop := ∃ W : Nat → Nat → St → Hp → Prop, (∃ m, W 0 m σ H1) ∧ ∀ i m σ H, W i m σ H →
  (J.stop i H ∧ D.nx σ H) ∨ (J.go i H ∧ ∃ N : St → Hp → Prop, (∀ σ' H', N σ' H' → ∃ m', m' < m ∧ W (i + 1) m' σ' H') ∧ ∀ x H', J.yld i H x H' → g x σ H' fun σ2 H2 => tb { D with nx := N, ct := N, bk := D.nx } σ2 H2)
def aRng1 (g : TG) (tb : TS) (D : Ends) (σ : St) (vs : List V) (H1 : Hp) : Prop := ∃ j : Int, vs = [.int j] ∧ -(2 ^ 62) ≤ j ∧ j < 2 ^ 62 ∧ aLoop (Itr 0 j.toNat) g tb D σ H1
def aRng2 (g : TG) (tb : TS) (D : Ends) (σ : St) (vs : List V) (H1 : Hp) : Prop := ∃ i j : Int, vs = [.int i, .int j] ∧ (-(2 ^ 62) ≤ i ∧ i < 2 ^ 62 ∧ -(2 ^ 62) ≤ j ∧ j < 2 ^ 62) ∧ aLoop (Itr i (j - i).toNat) g tb D σ H1
def aFList (K : PySem.W.Frag) (g : TG) (tb : TS) (D : Ends) (σ : St) (x : V) (H1 : Hp) : Prop := ∃ a, x = .ref a ∧ (∃ xs, SqL K H1 a xs) ∧ aLoop (Itl K a) g tb D σ H1
def aFEnum (K : PySem.W.Frag) (g : TG) (tb : TS) (D : Ends) (σ : St) (vs : List V) (H1 : Hp) : Prop := ∃ a xs, vs = [.ref a] ∧ SqL K H1 a xs ∧ aLoop (Ite K a) g tb D σ H1
section
variable {σ : St} {H : Hp} {D : Ends} {g : TG} {tb : TS} {ta : TA} {te : TE} {K : PySem.W.Frag}
theorem s_forR1 (k : ta σ H fun vs H1 => aRng1 g tb D σ vs H1) : tFor (iRng1 ta) g tb D σ H := k
theorem s_forR2 (k : ta σ H fun vs H1 => aRng2 g tb D σ vs H1) : tFor (iRng2 ta) g tb D σ H := k
theorem s_forL (k : te σ H fun x H1 => aFList K g tb D σ x H1) : tFor (iList K te) g tb D σ H := k
theorem s_forE (k : ta σ H fun vs H1 => aFEnum K g tb D σ vs H1) : tFor (iEnum K ta) g tb D σ H := k
variable {nx bk ct : St → Hp → Prop} {rt : VK} {j j' : Nat}
theorem w_rng1 {n : Int} (hn : n < 2 ^ 62 := by omega) (hn' : -(2 ^ 62) ≤ n := by omega) (Pv : Nat → St → Hp → Prop) (h0 : Pv 0 σ H)
    (hs : ∀ (i : Nat) σ' H', (i : Int) < n → Pv i σ' H' → tb ⟨Pv (i + 1), rt, nx, Pv (i + 1)⟩ (σ'.set j (some (.int (i : Int)))) H') (hd : ∀ σ' H', Pv n.toNat σ' H' → nx σ' H') : aRng1 (gName j) tb ⟨nx, rt, bk, ct⟩ σ [.int n] H :=
  ⟨n, rfl, hn', hn, for_range (lo := 0) (n := n.toNat) Pv h0 (fun i σ' H' hi p => by
    show tb ⟨Pv (i + 1), rt, nx, Pv (i + 1)⟩ (σ'.set j (some (.int ((0 : Int) + (i : Int))))) H'
    rw [Int.zero_add]
    exact hs i σ' H' (by omega) p) hd⟩
theorem w_rng2 {lo n : Int} (hl : -(2 ^ 62) ≤ lo := by omega) (hl' : lo < 2 ^ 62 := by omega) (hn : n < 2 ^ 62 := by omega) (hn' : -(2 ^ 62) ≤ n := by omega) (Pv : Nat → St → Hp → Prop) (h0 : Pv 0 σ H)
    (hs : ∀ (i : Nat) σ' H', lo + (i : Int) < n → Pv i σ' H' → tb ⟨Pv (i + 1), rt, nx, Pv (i + 1)⟩ (σ'.set j (some (.int (lo + (i : Int))))) H') (hd : ∀ σ' H', Pv (n - lo).toNat σ' H' → nx σ' H') : aRng2 (gName j) tb ⟨nx, rt, bk, ct⟩ σ [.int lo, .int n] H :=
  ⟨lo, n, rfl, ⟨hl, hl', hn', hn⟩, for_range (lo := lo) (n := (n - lo).toNat) Pv h0 (fun i σ' H' hi p => hs i σ' H' (by omega) p) hd⟩
/-- over a list that stands still; the item is f of us's -/
theorem w_forM {α : Type} {f : α → V} {us : List α} {p : Addr} (hp : H p = some (.lst (us.map f))) (Pv : Nat → St → Hp → Prop) (h0 : Pv 0 σ H) (hl : ∀ i σ' H', i ≤ us.length → Pv i σ' H' → H' p = some (.lst (us.map f)))
    (hs : ∀ (i : Nat) (u : α) σ' H', us[i]? = some u → Pv i σ' H' → g (f u) σ' H' fun σ2 H2 => tb ⟨Pv (i + 1), rt, nx, Pv (i + 1)⟩ σ2 H2) (hd : ∀ σ' H', Pv us.length σ' H' → nx σ' H') : aFList K g tb ⟨nx, rt, bk, ct⟩ σ (.ref p) H :=
  ⟨p, rfl, ⟨_, SqL.of hp⟩, for_list (K := K) (a := p) (xs := us.map f) Pv h0 (fun i σ' H' hi q => SqL.of (hl i σ' H' (by simpa using hi) q)) (fun i x σ' H' hx q => by
    rw [List.getElem?_map] at hx
    cases e : us[i]? with
    | none => rw [e] at hx; cases hx
    | some u =>
      rw [e] at hx
      cases hx
      exact hs i u σ' H' e q) (fun σ' H' q => hd σ' H' (by simpa using q))⟩
/-- a raw list -/
theorem w_forL {xs : List V} {p : Addr} (hp : H p = some (.lst xs)) (Pv : Nat → St → Hp → Prop) (h0 : Pv 0 σ H) (hl : ∀ i σ' H', i ≤ xs.length → Pv i σ' H' → H' p = some (.lst xs))
    (hs : ∀ (i : Nat) (u : V) σ' H', xs[i]? = some u → Pv i σ' H' → g u σ' H' fun σ2 H2 => tb ⟨Pv (i + 1), rt, nx, Pv (i + 1)⟩ σ2 H2) (hd : ∀ σ' H', Pv xs.length σ' H' → nx σ' H') : aFList K g tb ⟨nx, rt, bk, ct⟩ σ (.ref p) H :=
  ⟨p, rfl, ⟨_, SqL.of hp⟩, for_list (K := K) (a := p) (xs := xs) Pv h0 (fun i σ' H' hi q => SqL.of (hl i σ' H' hi q)) hs hd⟩
theorem for_enum {a : Addr} {xs : List V} (Pv : Nat → St → Hp → Prop) (h0 : Pv 0 σ H) (hl : ∀ i σ H, i ≤ xs.length → Pv i σ H → SqL K H a xs)
    (hs : ∀ i x T σ H, xs[i]? = some x → Pv i σ H → H T = none → g (.ref T) σ (upd H T (.tup [.int (i : Nat), x])) fun σ2 H2 => tb { D with nx := Pv (i + 1), ct := Pv (i + 1), bk := D.nx } σ2 H2) (hd : ∀ σ H, Pv xs.length σ H → D.nx σ H) : aLoop (Ite K a) g tb D σ H := by
  refine ⟨fun i m σ H => m = xs.length - i ∧ i ≤ xs.length ∧ Pv i σ H, ⟨xs.length, by simp, Nat.zero_le _, h0⟩, ?_⟩
  rintro i m σ H ⟨rfl, hi, p⟩
  have q := hl i σ H hi p
  by_cases hlt : i < xs.length
  · refine .inr ⟨⟨xs, xs[i], q, by simp [hlt]⟩, Pv (i + 1), fun σ' H' p' => ⟨xs.length - (i + 1), by omega, rfl, hlt, p'⟩, fun x H' y => ?_⟩
    obtain ⟨T, z, e1, e2, e3, y⟩ := y
    subst e1 e3
    exact hs i z T σ _ (y xs q) p e2
  · have e : i = xs.length := by omega
    subst e
    exact .inl ⟨⟨xs, q, Nat.le_refl _⟩, hd σ H p⟩
/-- for i, x in enumerate(xs), i in slot j, x in slot j' -/
theorem w_enumM {α : Type} {f : α → V} {us : List α} {p : Addr} (hp : H p = some (.lst (us.map f))) (Pv : Nat → St → Hp → Prop) (h0 : Pv 0 σ H) (hl : ∀ i σ' H', i ≤ us.length → Pv i σ' H' → H' p = some (.lst (us.map f)))
    (hs : ∀ (i : Nat) (u : α) (T : Addr) σ' H', us[i]? = some u → Pv i σ' H' → H' T = none → tb ⟨Pv (i + 1), rt, nx, Pv (i + 1)⟩ ((σ'.set j (some (.int (i : Int)))).set j' (some (f u))) (upd H' T (.tup [.int (i : Int), f u]))) (hd : ∀ σ' H', Pv us.length σ' H' → nx σ' H') :
    aFEnum K (gTup K 2 (gCons (gName j) (gCons (gName j') gNil))) tb ⟨nx, rt, bk, ct⟩ σ [.ref p] H :=
  ⟨p, _, rfl, SqL.of hp, for_enum (K := K) (a := p) (xs := us.map f) Pv h0 (fun i σ' H' hi q => SqL.of (hl i σ' H' (by simpa using hi) q)) (fun i x T σ' H' hx q hT => by
    rw [List.getElem?_map] at hx
    cases e : us[i]? with
    | none => rw [e] at hx; cases hx
    | some u =>
      rw [e] at hx
      cases hx
      exact ⟨T, _, rfl, .inl (.inl upd_same), rfl, _, _, rfl, _, _, rfl, rfl, hs i u T σ' H' e q hT⟩) (fun σ' H' q => hd σ' H' (by simpa using q))⟩

/-- the items of any kind, with any target for the item -/
theorem w_enumG {g : TG} {xs : List V} {p : Addr} (hp : H p = some (.lst xs)) (Pv : Nat → St → Hp → Prop) (h0 : Pv 0 σ H) (hl : ∀ i σ' H', i ≤ xs.length → Pv i σ' H' → H' p = some (.lst xs))
    (hs : ∀ (i : Nat) (u : V) (T : Addr) σ' H', xs[i]? = some u → Pv i σ' H' → H' T = none → g u (σ'.set j (some (.int (i : Int)))) (upd H' T (.tup [.int (i : Int), u])) fun σ2 H2 => gNil [] σ2 H2 fun σ3 H3 => tb ⟨Pv (i + 1), rt, nx, Pv (i + 1)⟩ σ3 H3) (hd : ∀ σ' H', Pv xs.length σ' H' → nx σ' H') :
    aFEnum K (gTup K 2 (gCons (gName j) (gCons g gNil))) tb ⟨nx, rt, bk, ct⟩ σ [.ref p] H :=
  ⟨p, _, rfl, SqL.of hp, for_enum (K := K) (a := p) (xs := xs) Pv h0 (fun i σ' H' hi q => SqL.of (hl i σ' H' hi q)) (fun i x T σ' H' hx q hT => by
    refine ⟨T, _, rfl, .inl (.inl upd_same), rfl, _, _, rfl, _, _, rfl, ?_⟩
    exact hs i x T σ' H' hx q hT) (fun σ' H' q => hd σ' H' q)⟩

theorem w_gTup {Q : St → Hp → Prop} {a : Addr} {xs : List V} {m : Nat} {t : TGs} (hp : H a = some (.tup xs)) (hl : xs.length = m) (k : t xs σ H Q) : gTup K m t (.ref a) σ H Q := ⟨a, xs, rfl, .inl (.inl hp), hl, k⟩
theorem w_gCons {Q : St → Hp → Prop} {v : V} {r : List V} {t : TG} {u : TGs} (k : t v σ H fun σ' H' => u r σ' H' Q) : gCons t u (v :: r) σ H Q := ⟨v, r, rfl, k⟩
theorem w_gNil {Q : St → Hp → Prop} (k : Q σ H) : gNil [] σ H Q := ⟨rfl, k⟩
/-! ### a cut: what follows is shown once -/
def tCut (t u : TS) : TS := fun D σ H => ∃ Mid : St → Hp → Prop, t { D with nx := Mid } σ H ∧ ∀ σ' H', Mid σ' H' → u D σ' H'
theorem pss_cut {X : Cx} {st : Stmt} {rest : List Stmt} {t u : TS} (h1 : PS X st t) (h2 : PSs X rest u) : PSs X (st :: rest) (tCut t u) := by
  refine ⟨fun pins s σ H D I h => ?_⟩
  obtain ⟨Mid, ht, hu⟩ := h
  refine wpAny_execs_cons (thn (h1.run pins s σ H { D with nx := Mid } I ht) fun f s1 q => ?_)
  cases f with
  | next =>
    obtain ⟨σ', H', I', q⟩ := q
    exact h2.run pins s1 σ' H' D I' (hu σ' H' q)
  | ret v => exact q
  | brk => exact q
  | cont => exact q
theorem s_cut {σ : St} {H : Hp} {ts us : TS} {nx bk ct : St → Hp → Prop} {rt : VK} (Mid : St → Hp → Prop) (h1 : ts ⟨Mid, rt, bk, ct⟩ σ H) (h2 : ∀ σ' H', Mid σ' H' → us ⟨nx, rt, bk, ct⟩ σ' H') : tCut ts us ⟨nx, rt, bk, ct⟩ σ H := ⟨Mid, h1, h2⟩
/-! ### while -/
/-- the turn, once the test has come out true -/
def aTurn (Pv : St → Hp → Prop) (μ : St → Hp → Nat) (m : Nat) (tb : TS) (rt : VK) (nx : St → Hp → Prop) (σ : St) (H : Hp) : Prop :=
  ∃ N : St → Hp → Prop, (∀ σ' H', N σ' H' → ∃ m', m' < m ∧ (Pv σ' H' ∧ μ σ' H' = m')) ∧ tb ⟨N, rt, nx, N⟩ σ H
theorem w_turn {Pv : St → Hp → Prop} {μ : St → Hp → Nat} {m : Nat} (k : tb ⟨fun σ' H' => Pv σ' H' ∧ μ σ' H' < m, rt, nx, fun σ' H' => Pv σ' H' ∧ μ σ' H' < m⟩ σ H) : aTurn Pv μ m tb rt nx σ H :=
  ⟨_, fun σ' H' q => ⟨_, q.2, q.1, rfl⟩, k⟩
theorem w_while {c : TT} (Pv : St → Hp → Prop) (μ : St → Hp → Nat) (h0 : Pv σ H) (hs : ∀ σ' H', Pv σ' H' → c σ' H' fun b H1 => if b = true then aTurn Pv μ (μ σ' H') tb rt nx σ' H1 else nx σ' H1) : tWhile c tb ⟨nx, rt, bk, ct⟩ σ H :=
  ⟨fun m σ H => Pv σ H ∧ μ σ H = m, ⟨_, h0, rfl⟩, fun m σ' H' hw => by
    obtain ⟨p, rfl⟩ := hw
    exact hs σ' H' p⟩
end

/-! ### list comprehensions -/
/-- behind a turn: the list at D -/
def cNx (H0 : Hp) (D : Addr) (acc : List V) : Hp → Prop := fun H => Kp [] H0 H ∧ H D = some (.lst acc)
/-- the kept item y goes to the list at D -/
def aKeep (H0 : Hp) (D : Addr) (acc' : List V) : VK := fun y H4 => ∃ acc, H4 D = some (.lst acc) ∧ acc.length < sizeLine ∧ cNx H0 D acc' (upd H4 D (.lst (acc ++ [y])))
section
variable {σ : St} {H : Hp} {g : TG} {tt : TT} {te : TE} {tl : TE} {ta : TA} {K : PySem.W.Frag} {vs : List Nat} {Q : VK}
def aComp (J : It) (g : TG) (tt : TT) (te : TE) (vs : List Nat) (σ : St) (Q : VK) (H1 : Hp) : Prop := ∀ D, H1 D = none → ∃ W : Nat → Nat → Hp → Prop, (∃ m, W 0 m (upd H1 D (.lst []))) ∧ ∀ i m H, W i m H →
  (J.stop i H ∧ Q (.ref D) H) ∨ (J.go i H ∧ ∃ Nx : Hp → Prop, (∀ H', Nx H' → ∃ m', m' < m ∧ W (i + 1) m' H') ∧ ∀ x H', J.yld i H x H' → g x (wipe σ vs) H' fun σ2 H2 => wipe σ2 vs = wipe σ vs ∧ tt σ2 H2 fun b H3 =>
    if b = true then te σ2 H3 fun y H4 => ∃ acc, H4 D = some (.lst acc) ∧ acc.length < sizeLine ∧ Nx (upd H4 D (.lst (acc ++ [y]))) else Nx H3)
def aCList (K : PySem.W.Frag) (g : TG) (tt : TT) (te : TE) (vs : List Nat) (σ : St) (Q : VK) (x : V) (H1 : Hp) : Prop := ∃ a, x = .ref a ∧ (∃ xs, SqL K H1 a xs) ∧ aComp (Itl K a) g tt te vs σ Q H1
def aCR1 (g : TG) (tt : TT) (te : TE) (vs : List Nat) (σ : St) (Q : VK) (us : List V) (H1 : Hp) : Prop := ∃ j : Int, us = [.int j] ∧ -(2 ^ 62) ≤ j ∧ j < 2 ^ 62 ∧ aComp (Itr 0 j.toNat) g tt te vs σ Q H1
def aCR2 (g : TG) (tt : TT) (te : TE) (vs : List Nat) (σ : St) (Q : VK) (us : List V) (H1 : Hp) : Prop := ∃ i j : Int, us = [.int i, .int j] ∧ (-(2 ^ 62) ≤ i ∧ i < 2 ^ 62 ∧ -(2 ^ 62) ≤ j ∧ j < 2 ^ 62) ∧ aComp (Itr i (j - i).toNat) g tt te vs σ Q H1
def aCEnum (K : PySem.W.Frag) (g : TG) (tt : TT) (te : TE) (vs : List Nat) (σ : St) (Q : VK) (us : List V) (H1 : Hp) : Prop := ∃ a xs, us = [.ref a] ∧ SqL K H1 a xs ∧ aComp (Ite K a) g tt te vs σ Q H1
theorem s_lcL (k : tl σ H fun x H1 => aCList K g tt te vs σ Q x H1) : tLc (iList K tl) g tt te vs σ H Q := k
theorem s_lcR1 (k : ta σ H fun us H1 => aCR1 g tt te vs σ Q us H1) : tLc (iRng1 ta) g tt te vs σ H Q := k
theorem s_lcR2 (k : ta σ H fun us H1 => aCR2 g tt te vs σ Q us H1) : tLc (iRng2 ta) g tt te vs σ H Q := k
theorem s_lcE (k : ta σ H fun us H1 => aCEnum K g tt te vs σ Q us H1) : tLc (iEnum K ta) g tt te vs σ H Q := k
theorem fm_snoc {α β : Type} (ψ : α → Option β) {us : List α} {i : Nat} {u : α} (h : us[i]? = some u) : (us.take (i + 1)).filterMap ψ = (us.take i).filterMap ψ ++ (ψ u).toList := by
  have e : us.take (i + 1) = us.take i ++ [u] := by
    rw [List.take_succ, h]; rfl
  rw [e, List.filterMap_append]
  cases q : ψ u <;> simp [List.filterMap_cons, q]
theorem fm_len {α β : Type} (ψ : α → Option β) (us : List α) : (us.filterMap ψ).length ≤ us.length := List.length_filterMap_le _ _
variable {α β : Type} {f : α → V} {f' : β → V}
theorem w_lcM (ψ : α → Option β) {us : List α} {p : Addr} (hp : H p = some (.lst (us.map f))) (hz : us.length < sizeLine)
    (hs : ∀ (D : Addr) (i : Nat) (u : α) (acc : List V) (H' : Hp), H D = none → us[i]? = some u → Kp [] H H' → H' D = some (.lst acc) → acc.length < sizeLine → g (f u) (wipe σ vs) H' fun σ2 H2 => wipe σ2 vs = wipe σ vs ∧ tt σ2 H2 fun b H3 =>
      if b = true then te σ2 H3 (aKeep H D (acc ++ (ψ u).toList.map f')) else cNx H D (acc ++ (ψ u).toList.map f') H3)
    (k : ∀ D H', H D = none → Kp [] H H' → H' D = some (.lst ((us.filterMap ψ).map f')) → Q (.ref D) H') : aCList K g tt te vs σ Q (.ref p) H :=
  ⟨p, rfl, ⟨_, SqL.of hp⟩, fun D hD => lc_list (K := K) (a := p) (xs := us.map f) (fun i => cNx H D (((us.take i).filterMap ψ).map f')) ⟨Kp.refl.new hD, upd_same⟩
    (fun i H' hi q => SqL.of (q.1.at0 hp)) (fun i x H' hx q => by
      rw [List.getElem?_map] at hx
      cases e : us[i]? with
      | none => rw [e] at hx; cases hx
      | some u =>
        rw [e] at hx
        cases hx
        have hl : i < us.length := (List.getElem?_eq_some_iff.mp e).1
        have hlen : (((us.take i).filterMap ψ).map f').length < sizeLine := by
          have := fm_len ψ (us.take i)
          rw [List.length_take] at this
          rw [List.length_map]
          omega
        have h := hs D i u _ H' hD e q.1 q.2 hlen
        have e2 : ((us.take (i + 1)).filterMap ψ).map f' = ((us.take i).filterMap ψ).map f' ++ (ψ u).toList.map f' := by rw [fm_snoc ψ e, List.map_append]
        rw [e2]
        exact h) (fun H' q => k D H' hD q.1 (by
          have := q.2
          rw [List.length_map, List.take_length] at this
          exact this))⟩
theorem w_lcR (ψ : Nat → Option β) {lo n : Int} (hl1 : -(2 ^ 62) ≤ lo) (hl2 : lo < 2 ^ 62) (hn1 : -(2 ^ 62) ≤ n) (hn2 : n < 2 ^ 62) (hz : (n - lo).toNat < sizeLine)
    (hs : ∀ (D : Addr) (i : Nat) (acc : List V) (H' : Hp), H D = none → lo + (i : Int) < n → Kp [] H H' → H' D = some (.lst acc) → acc.length < sizeLine → g (.int (lo + (i : Int))) (wipe σ vs) H' fun σ2 H2 => wipe σ2 vs = wipe σ vs ∧ tt σ2 H2 fun b H3 =>
      if b = true then te σ2 H3 (aKeep H D (acc ++ (ψ i).toList.map f')) else cNx H D (acc ++ (ψ i).toList.map f') H3)
    (k : ∀ D H', H D = none → Kp [] H H' → H' D = some (.lst (((List.range (n - lo).toNat).filterMap ψ).map f')) → Q (.ref D) H') : aComp (Itr lo (n - lo).toNat) g tt te vs σ Q H :=
  fun D hD => lc_range (lo := lo) (n := (n - lo).toNat) (fun i => cNx H D (((List.range i).filterMap ψ).map f')) ⟨Kp.refl.new hD, upd_same⟩ (fun i H' hi q => by
      have hlen : (((List.range i).filterMap ψ).map f').length < sizeLine := by
        have := fm_len ψ (List.range i)
        rw [List.length_range] at this
        rw [List.length_map]
        omega
      have h := hs D i _ H' hD (by omega) q.1 q.2 hlen
      have e2 : ((List.range (i + 1)).filterMap ψ).map f' = ((List.range i).filterMap ψ).map f' ++ (ψ i).toList.map f' := by
        rw [List.range_succ, List.filterMap_append, List.map_append]
        cases q : ψ i <;> simp [List.filterMap_cons, q]
      rw [e2]
      exact h) (fun H' q => k D H' hD q.1 q.2)
theorem w_lcR1 (ψ : Nat → Option β) {n : Int} (hn1 : -(2 ^ 62) ≤ n) (hn2 : n < 2 ^ 62) (hz : n.toNat < sizeLine)
    (hs : ∀ (D : Addr) (i : Nat) (acc : List V) (H' : Hp), H D = none → (i : Int) < n → Kp [] H H' → H' D = some (.lst acc) → acc.length < sizeLine → g (.int (i : Int)) (wipe σ vs) H' fun σ2 H2 => wipe σ2 vs = wipe σ vs ∧ tt σ2 H2 fun b H3 =>
      if b = true then te σ2 H3 (aKeep H D (acc ++ (ψ i).toList.map f')) else cNx H D (acc ++ (ψ i).toList.map f') H3)
    (k : ∀ D H', H D = none → Kp [] H H' → H' D = some (.lst (((List.range n.toNat).filterMap ψ).map f')) → Q (.ref D) H') : aCR1 g tt te vs σ Q [.int n] H := by
  have q := w_lcR (H := H) (g := g) (tt := tt) (te := te) (σ := σ) (vs := vs) (Q := Q) (f' := f') ψ (lo := 0) (n := n) (by omega) (by omega) hn1 hn2 (by simpa using hz) (fun D i acc H' h1 h2 h3 h4 h5 => by
    rw [Int.zero_add]
    exact hs D i acc H' h1 (by omega) h3 h4 h5) (by simpa using k)
  exact ⟨n, rfl, hn1, hn2, by simpa using q⟩
theorem w_lcR2 (ψ : Nat → Option β) {lo n : Int} (hl1 : -(2 ^ 62) ≤ lo) (hl2 : lo < 2 ^ 62) (hn1 : -(2 ^ 62) ≤ n) (hn2 : n < 2 ^ 62) (hz : (n - lo).toNat < sizeLine)
    (hs : ∀ (D : Addr) (i : Nat) (acc : List V) (H' : Hp), H D = none → lo + (i : Int) < n → Kp [] H H' → H' D = some (.lst acc) → acc.length < sizeLine → g (.int (lo + (i : Int))) (wipe σ vs) H' fun σ2 H2 => wipe σ2 vs = wipe σ vs ∧ tt σ2 H2 fun b H3 =>
      if b = true then te σ2 H3 (aKeep H D (acc ++ (ψ i).toList.map f')) else cNx H D (acc ++ (ψ i).toList.map f') H3)
    (k : ∀ D H', H D = none → Kp [] H H' → H' D = some (.lst (((List.range (n - lo).toNat).filterMap ψ).map f')) → Q (.ref D) H') : aCR2 g tt te vs σ Q [.int lo, .int n] H :=
  ⟨lo, n, rfl, ⟨hl1, hl2, hn1, hn2⟩, w_lcR ψ hl1 hl2 hn1 hn2 hz hs k⟩
/-- the item is kept -/
theorem w_keep {D : Addr} {acc : List V} {o : Option β} {b : β} {H4 : Hp} (hk : Kp [] H H4) (hD : H4 D = some (.lst acc)) (hl : acc.length < sizeLine) (hn : H D = none) (e : o = some b) : aKeep H D (acc ++ o.toList.map f') (f' b) H4 := by
  subst e
  exact ⟨acc, hD, hl, hk.own hn, upd_same⟩
theorem w_drop {D : Addr} {acc : List V} {o : Option β} {H4 : Hp} (hk : Kp [] H H4) (hD : H4 D = some (.lst acc)) (e : o = none) : cNx H D (acc ++ o.toList.map f') H4 := by
  subst e
  exact ⟨hk, by simpa using hD⟩
/-- behind a turn of a comprehension whose turns change other things, too -/
def gNx (ms : List Addr) (H0 : Hp) (D : Addr) (J : Nat → List V → Hp → Prop) (i : Nat) (H : Hp) : Prop := ∃ acc : List V, acc.length ≤ i ∧ Kp ms H0 H ∧ H D = some (.lst acc) ∧ J i acc H
def gKeep (ms : List Addr) (H0 : Hp) (D : Addr) (J : Nat → List V → Hp → Prop) (i : Nat) : VK := fun y H4 => ∃ acc, H4 D = some (.lst acc) ∧ acc.length < sizeLine ∧ gNx ms H0 D J i (upd H4 D (.lst (acc ++ [y])))
theorem w_lcRG {lo n : Int} (ms : List Addr) (J : Addr → Nat → List V → Hp → Prop)
    (h0 : ∀ D, H D = none → J D 0 [] (upd H D (.lst [])))
    (hs : ∀ (D : Addr) (i : Nat) (acc : List V) (H' : Hp), H D = none → lo + (i : Int) < n → acc.length ≤ i → Kp ms H H' → H' D = some (.lst acc) → J D i acc H' → g (.int (lo + (i : Int))) (wipe σ vs) H' fun σ2 H2 => wipe σ2 vs = wipe σ vs ∧ tt σ2 H2 fun b H3 =>
      if b = true then te σ2 H3 (gKeep ms H D (J D) (i + 1)) else gNx ms H D (J D) (i + 1) H3)
    (k : ∀ D acc H', H D = none → acc.length ≤ (n - lo).toNat → Kp ms H H' → H' D = some (.lst acc) → J D (n - lo).toNat acc H' → Q (.ref D) H') : aComp (Itr lo (n - lo).toNat) g tt te vs σ Q H :=
  fun D hD => lc_range (lo := lo) (n := (n - lo).toNat) (fun i => gNx ms H D (J D) i) ⟨[], Nat.zero_le _, Kp.refl.new hD, upd_same, h0 D hD⟩ (fun i H' hi q => by
      obtain ⟨acc, q1, q2, q3, q4⟩ := q
      exact hs D i acc H' hD (by omega) q1 q2 q3 q4) (fun H' q => by
      obtain ⟨acc, q1, q2, q3, q4⟩ := q
      exact k D acc H' hD q1 q2 q3 q4)
theorem w_lcRG2 {lo n : Int} (ms : List Addr) (J : Addr → Nat → List V → Hp → Prop) (hl1 : -(2 ^ 62) ≤ lo) (hl2 : lo < 2 ^ 62) (hn1 : -(2 ^ 62) ≤ n) (hn2 : n < 2 ^ 62)
    (h0 : ∀ D, H D = none → J D 0 [] (upd H D (.lst [])))
    (hs : ∀ (D : Addr) (i : Nat) (acc : List V) (H' : Hp), H D = none → lo + (i : Int) < n → acc.length ≤ i → Kp ms H H' → H' D = some (.lst acc) → J D i acc H' → g (.int (lo + (i : Int))) (wipe σ vs) H' fun σ2 H2 => wipe σ2 vs = wipe σ vs ∧ tt σ2 H2 fun b H3 =>
      if b = true then te σ2 H3 (gKeep ms H D (J D) (i + 1)) else gNx ms H D (J D) (i + 1) H3)
    (k : ∀ D acc H', H D = none → acc.length ≤ (n - lo).toNat → Kp ms H H' → H' D = some (.lst acc) → J D (n - lo).toNat acc H' → Q (.ref D) H') : aCR2 g tt te vs σ Q [.int lo, .int n] H :=
  ⟨lo, n, rfl, ⟨hl1, hl2, hn1, hn2⟩, w_lcRG ms J h0 hs k⟩
theorem w_lcRG1 {n : Int} (ms : List Addr) (J : Addr → Nat → List V → Hp → Prop) (hn1 : -(2 ^ 62) ≤ n) (hn2 : n < 2 ^ 62)
    (h0 : ∀ D, H D = none → J D 0 [] (upd H D (.lst [])))
    (hs : ∀ (D : Addr) (i : Nat) (acc : List V) (H' : Hp), H D = none → (i : Int) < n → acc.length ≤ i → Kp ms H H' → H' D = some (.lst acc) → J D i acc H' → g (.int (i : Int)) (wipe σ vs) H' fun σ2 H2 => wipe σ2 vs = wipe σ vs ∧ tt σ2 H2 fun b H3 =>
      if b = true then te σ2 H3 (gKeep ms H D (J D) (i + 1)) else gNx ms H D (J D) (i + 1) H3)
    (k : ∀ D acc H', H D = none → acc.length ≤ n.toNat → Kp ms H H' → H' D = some (.lst acc) → J D n.toNat acc H' → Q (.ref D) H') : aCR1 g tt te vs σ Q [.int n] H := by
  have q := w_lcRG (H := H) (g := g) (tt := tt) (te := te) (σ := σ) (vs := vs) (Q := Q) (lo := 0) (n := n) ms J h0 (fun D i acc H' h1 h2 h3 h4 h5 h6 => by
    rw [Int.zero_add]
    exact hs D i acc H' h1 (by omega) h3 h4 h5 h6) (by simpa using k)
  exact ⟨n, rfl, hn1, hn2, by simpa using q⟩
theorem w_keepG {ms : List Addr} {J : Nat → List V → Hp → Prop} {D : Addr} {acc : List V} {i : Nat} {y : V} {H4 : Hp} (hk : Kp ms H H4) (hD : H4 D = some (.lst acc)) (hl : acc.length ≤ i) (hz : i < sizeLine) (hn : H D = none) (j : J (i + 1) (acc ++ [y]) (upd H4 D (.lst (acc ++ [y])))) : gKeep ms H D J (i + 1) y H4 :=
  ⟨acc, hD, by omega, acc ++ [y], by rw [List.length_append]; simpa using hl, hk.own hn, upd_same, j⟩
theorem w_dropG {ms : List Addr} {J : Nat → List V → Hp → Prop} {D : Addr} {acc : List V} {i : Nat} {H4 : Hp} (hk : Kp ms H H4) (hD : H4 D = some (.lst acc)) (hl : acc.length ≤ i) (j : J (i + 1) acc H4) : gNx ms H D J (i + 1) H4 :=
  ⟨acc, by omega, hk, hD, j⟩
theorem s_yes {Q : Bool → Hp → Prop} (k : Q true H) : tYes σ H Q := k
theorem fm_some {h : α → β} {us : List α} : us.filterMap (fun u => some (h u)) = us.map h := by
  rw [← List.filterMap_eq_map]; rfl
end

/-! ### try, except -/
section
variable {K : PySem.W.Frag} {c cls : Value} {d : Option Addr} {i : Nat} {ts : Addr → Value → Option Addr → TS} {Wout : WX} {nx bk ct : St → Hp → Prop} {rt : VK} {σ : St} {H : Hp}
theorem w_asT (e : PySem.W.exmOne K cls c = some true) (k : ∀ a, H a = none → ts a cls d ⟨fun σ' H' => nx (σ'.set i none) H', rt, fun σ' H' => bk (σ'.set i none) H', fun σ' H' => ct (σ'.set i none) H'⟩ (σ.set i (some (.ref a))) H) : wAs K c i ts Wout ⟨nx, rt, bk, ct⟩ cls d σ H :=
  ⟨true, e, fun _ => k, fun q => Bool.noConfusion q⟩
theorem w_asF {D : Ends} (e : PySem.W.exmOne K cls c = some false) (k : Wout cls d σ H) : wAs K c i ts Wout D cls d σ H :=
  ⟨false, e, fun q => Bool.noConfusion q, fun _ => k⟩
/-- e.f, e the caught exception at a, of the class cls, its dict d -/
def tXfG (K : PySem.W.Frag) (a : Addr) (cls : Value) (d : Option Addr) (f : Str) (te : TE) : TE := fun σ H Q => te σ H fun x H1 => x = .ref a ∧ ∃ (C dd : Addr) (fs : List (Str × V)) (v : V), cls = .ref C ∧ d = some dd ∧ XfC K C ∧ PySem.W.findIn K (.ref C) f = some none ∧ H1 dd = some (.xd fs) ∧ fs.lookup f = some v ∧ Q v H1
theorem pe_xfG {X : Cx} {a : Addr} {oe : Obj} {cls : Value} {d : Option Addr} {pn : List (Addr × Obj)} {e : Expr} {te : TE} {pos : Pos} {n : Str}
    (hz : Zc cls d oe) (hf : ∃ vs, oe.data = .fields vs) (he : PE (X.suite a ((a, oe) :: pn)) e te) (hb : attributeBase e n X.env (eval e X.env) = eval e X.env := by rfl) :
    PE (X.suite a ((a, oe) :: pn)) (.Attribute e n pos) (tXfG X.K a cls d n te) := by
  refine ⟨fun pins s σ H Q I h => ?_⟩
  refine attr_of hb (thn (he.run pins s σ H _ I h) fun u s1 hh => ?_)
  obtain ⟨x, H1, I1, rx, ex, C, dd, fs, v, ec, ed, T, hno, ea, l, q⟩ := hh
  subst ex
  obtain rfl : u = Value.ref a := rx
  subst ec
  subst ed
  obtain ⟨ha, _⟩ := I1.pin (a, oe) (List.mem_append_left _ List.mem_cons_self)
  obtain ⟨vs, hd⟩ := hf
  have hx : ObjOk X.prog X.w H1 s1.heap dd (.xd fs) := I1.hok dd _ ea
  obtain ⟨mA, hns, hr⟩ := hx
  obtain ⟨od, ho, hl⟩ := lookIn_ns hns
  obtain ⟨u, hu, ru⟩ := RelO.some_of (v := v) (o := mA n) (by rw [← l]; exact hr n)
  have J : PySem.W.InstAt s1.heap a oe C (some od) := ⟨ha, hz.1, by unfold PySem.W.notCls; rw [hd] <;> rfl, by rw [hz.2]; exact ho⟩
  exact HandSPX.exc_get I1.kIn J T.ga T.gg T.exC (PySem.W.findObj_own T.hdC hno rfl (by rw [hl, hu])) (handed_of ru) ⟨v, H1, I1.tok _, ru, q⟩
/-- isinstance(e, C) of the caught exception -/
def rIsG (K : PySem.W.Frag) (a : Addr) (cls : Value) (d : Option Addr) : List V → Hp → VK → Prop := fun xs H Q => ∃ (C dd : Addr) (fs : List (Str × V)) (c : V) (cv : Value) (b : Bool), xs = [.ref a, c] ∧ cls = .ref C ∧ d = some dd ∧ H dd = some (.xd fs) ∧ ExcC K C ∧ ClsV c cv ∧ PySem.W.kitOne K (.ref C) cv = some b ∧ Q (.bl b) H
theorem call_isG {X : Cx} {a : Addr} {oe : Obj} {cls : Value} {d : Option Addr} {pn : List (Addr × Obj)} (hz : Zc cls d oe) (hf : ∃ vs, oe.data = .fields vs) : CallR (X.suite a ((a, oe) :: pn)) (.builtin "isinstance") (rIsG X.K a cls d) := by
  intro pins s σ H xs us Q I r h
  obtain ⟨C, dd, fs, c, cv, b, rfl, rfl, rfl, hdd, E, hcv, e, q⟩ := h
  obtain ⟨u1, u2, rfl, r1, r2⟩ := vals2 r
  have e2 := hcv.eq r2
  subst e2
  cases r1
  obtain ⟨ha, _⟩ := I.pin (a, oe) (List.mem_append_left _ List.mem_cons_self)
  obtain ⟨vs, hd⟩ := hf
  have hx : ObjOk X.prog X.w H s.heap dd (.xd fs) := I.hok dd _ hdd
  obtain ⟨mA, hns, hr⟩ := hx
  obtain ⟨od, ho, hl⟩ := lookIn_ns hns
  have J : PySem.W.InstAt s.heap a oe C (some od) := ⟨ha, hz.1, by unfold PySem.W.notCls; rw [hd] <;> rfl, by rw [hz.2]; exact ho⟩
  have hcl : (PySem.W.clsIn X.K C).isSome = true := by
    obtain ⟨cd, hc, _⟩ := PySem.W.any_some E.hd
    rw [hc]; rfl
  exact PySem.W.kia_one (PySem.W.kitx_exc hcl E.hg E.hk E.hs E.ha E.hn E.ht E.hm) I.kIn J e (fun z => nomatch z) fun tk => ⟨.bl b, H, I.kept (t' := tk) fun _ _ z => z, rfl, q⟩
end
/-- in the suite: the exception that is handled has no context -/
theorem hot_suite {X : Cx} {a : Addr} {oe : Obj} {cls : Value} {d : Option Addr} {pn : List (Addr × Obj)} (hz : L2N.Zn cls d oe) (hf : ∃ vs, oe.data = .fields vs) : L2H.HotC (X.suite a ((a, oe) :: pn)) := by
  obtain ⟨vs, hd⟩ := hf
  exact ⟨(a, oe), ⟨rfl, vs, hd, hz.2.2 vs hd⟩, List.mem_cons_self⟩
end Lk
namespace Lk
open PySem PySem.Spec PyProof.Rows L2

/-! ### a op b op c op d -/
def tChain3 (r r' r'' : R2) (ta tb tc td : TE) : TE := fun σ H Q => ta σ H fun x H1 => tb σ H1 fun y H2 => r x y H2 fun z H3 => aB z H3 fun k H3 =>
  if k = true then tc σ H3 fun w' H4 => r' y w' H4 fun z H5 => aB z H5 fun k H5 => if k = true then td σ H5 fun v' H6 => r'' w' v' H6 Q else Q (.bl false) H5 else Q (.bl false) H3
theorem s_chain3 {σ : St} {H : Hp} {Q : VK} {r r' r'' : R2} {ta tb tc td : TE} (k : ta σ H fun x H1 => tb σ H1 fun y H2 => r x y H2 fun z H3 => aB z H3 fun k H3 =>
  if k = true then tc σ H3 fun w' H4 => r' y w' H4 fun z H5 => aB z H5 fun k H5 => if k = true then td σ H5 fun v' H6 => r'' w' v' H6 Q else Q (.bl false) H5 else Q (.bl false) H3) : tChain3 r r' r'' ta tb tc td σ H Q := k
theorem pt_chain3A {X : Cx} {op op' op'' : CmpOp} {r r' r'' : R2} {e1 e2 e3 e4 : Expr} {ta tb tc td : TE} {pos : Pos} (ho : OpR X (compareOp op) r) (ho' : OpR X (compareOp op') r') (ho'' : OpR X (compareOp op'') r'') (ha : PE X e1 ta) (hb : PE X e2 tb) (hc : PE X e3 tc) (hd : PE X e4 td)
    (hm : lastMarks [op, op', op''] [e2, e3, e4] = false := by with_unfolding_all rfl) : PT X (.Compare e1 [op, op', op''] [e2, e3, e4] pos) (cB (tChain3 r r' r'' ta tb tc td)) := by
  refine ⟨fun pins s σ H Q I h => ?_⟩
  refine isTrue_chain (thn (ha.run pins s σ H _ I h) fun v s1 ⟨x, H1, I1, r1, q1⟩ => test_link (thn (hb.run pins s1 σ H1 _ I1 q1) fun u s2 ⟨y, H2, I2, r2, q2⟩ =>
    thn (ho pins s2 σ H2 x y v u _ I2 r1 r2 q2) fun d s3 ⟨z, H3, I3, r3, k, e, q3⟩ => ?_)) hm
  subst e
  cases r3
  refine wpAny_truthy_bool ?_
  cases k with
  | false =>
    obtain ⟨k', e', q'⟩ := q3
    cases e'
    exact ite_ff ⟨H3, I3, q'⟩
  | true =>
    refine ite_tt (test_link (thn (hc.run pins s3 σ H3 _ I3 q3) fun w' s4 ⟨z', H4, I4, r4, q4⟩ => thn (ho' pins s4 σ H4 y z' u w' _ I4 r2 r4 q4) fun d' s5 ⟨z2, H5, I5, r5, k2, e2, q5⟩ => ?_))
    subst e2
    cases r5
    refine wpAny_truthy_bool ?_
    cases k2 with
    | false =>
      obtain ⟨k', e', q'⟩ := q5
      cases e'
      exact ite_ff ⟨H5, I5, q'⟩
    | true =>
      refine ite_tt (test_last (thn (hd.run pins s5 σ H5 _ I5 q5) fun w6 s6 ⟨z6, H6, I6, r6, q6⟩ => thn (ho'' pins s6 σ H6 z' z6 w' w6 _ I6 r4 r6 q6) fun d7 s7 ⟨z7, H7, I7, r7, k7, e7, q7⟩ => ?_))
      subst e7
      cases r7
      exact wpAny_truthy_bool ⟨H7, I7, q7⟩

theorem roomH_units {k : Nat} {A : Around} (r : L2H.RoomH k A) : A.units + 64 < cLine := by have := r.un; omega
theorem roomH_s {j k : Nat} {A A' : Around} (r : L2H.RoomH j A) (h : k ≤ j) (e1 : A'.depth = A.depth) (e2 : A'.units = A.units) : L2H.RoomH k A' :=
  ⟨by have := r.dp; omega, by have := r.un; omega⟩
/-! ### addresses -/
theorem ne_n {H : Hp} {a b : Addr} {o : HO} (h' : H b = none) (h : H a = some o) : a ≠ b := ne_of_none h h'
theorem ne_n' {H : Hp} {a b : Addr} {o : HO} (h' : H a = none) (h : H b = some o) : a ≠ b := Ne.symm (ne_of_none h h')
theorem upd_new {H : Hp} {p a : Addr} {o u : HO} (n : H p = none) (h : H a = some u) : upd H p o a = some u := upd_get (ne_of_none h n) h
/-- another kind of thing was at p -/
theorem upd_kind {H : Hp} {p a : Addr} {o u u' : HO} (hp : H p = some u') (h : H a = some u) (n : u ≠ u') : upd H p o a = some u := upd_get (ne_of h hp n) h
/-! ### members -/
section
variable {i : Int} {p : Addr} {H : Hp} {Q : VK} {us : List Int} {K : PySem.W.Frag}
theorem eqV_int (a b : Int) : eqV (.int a) (.int b) = decide (a = b) := by
  have : eqV (.int a) (.int b) = (a == b) := rfl
  rw [this]; rfl
theorem inV_int : ∀ us : List Int, inV (.int i) (us.map V.int) = decide (i ∈ us)
  | [] => by simp [inV]
  | u :: us => by
    have h := inV_int us
    unfold inV at h ⊢
    rw [List.map_cons, List.any_cons, h, eqV_int]
    by_cases z : u = i
    · simp [z]
    · have z2 : ¬ i = u := fun q => z q.symm
      simp [z, z2]
theorem flat_int : ∀ us : List Int, (us.map V.int).all flatV = true
  | [] => rfl
  | u :: us => by rw [List.map_cons, List.all_cons, flat_int us]; rfl
theorem w_inI (hp : H p = some (.lst (us.map V.int))) (k : Q (.bl (decide (i ∈ us))) H) : rIn K false (.int i) (.ref p) H Q :=
  ⟨p, _, rfl, .inl (SqL.of hp), rfl, flat_int us, by rw [inV_int]; exact k⟩
theorem w_notInI (hp : H p = some (.lst (us.map V.int))) (k : Q (.bl (!decide (i ∈ us))) H) : rIn K true (.int i) (.ref p) H Q :=
  ⟨p, _, rfl, .inl (SqL.of hp), rfl, flat_int us, by rw [inV_int]; exact k⟩
theorem w_eqLI' {ns ms : List Int} {q : Addr} (hp : H p = some (.lst (ns.map V.int))) (hq : H q = some (.lst (ms.map V.int))) (k : Q (.bl (decide (ns = ms))) H) : aEq K (.ref p) (.ref q) H Q := w_eqLI (SqL.of hp) (SqL.of hq) k
theorem w_eqLI0 {ns : List Int} {q : Addr} (hp : H p = some (.lst (ns.map V.int))) (hq : H q = some (.lst [])) (k : Q (.bl (decide (ns = []))) H) : aEq K (.ref p) (.ref q) H Q := w_eqLI (ms := []) (SqL.of hp) (SqL.of hq) k
theorem w_neLI' {ns ms : List Int} {q : Addr} (hp : H p = some (.lst (ns.map V.int))) (hq : H q = some (.lst (ms.map V.int))) (k : Q (.bl (!decide (ns = ms))) H) : aNe K (.ref p) (.ref q) H Q := w_neLI (SqL.of hp) (SqL.of hq) k
theorem w_neLI0 {ns : List Int} {q : Addr} (hp : H p = some (.lst (ns.map V.int))) (hq : H q = some (.lst [])) (k : Q (.bl (!decide (ns = []))) H) : aNe K (.ref p) (.ref q) H Q := w_neLI (ms := []) (SqL.of hp) (SqL.of hq) k
end
/-! ### raise -/
theorem s_mkx {C : Addr} {fs : List Str} {ta : TA} {σ : St} {H : Hp} {Q : XK} (k : ta σ H fun vs H1 => vs.length = fs.length ∧ ∀ d, H1 d = none → Q (.ref C) (some d) (upd H1 d (.xd (fs.zip vs)))) : tMkX C fs ta σ H Q := k
theorem w_and {A B : Prop} (a : A) (b : B) : A ∧ B := ⟨a, b⟩
theorem s_xf {K : PySem.W.Frag} {a : Addr} {cls : Value} {d : Option Addr} {f : Str} {te : TE} {σ : St} {H : Hp} {Q : VK} (k : te σ H fun x H1 => x = .ref a ∧ ∃ (C dd : Addr) (fs : List (Str × V)) (v : V), cls = .ref C ∧ d = some dd ∧ XfC K C ∧ PySem.W.findIn K (.ref C) f = some none ∧ H1 dd = some (.xd fs) ∧ fs.lookup f = some v ∧ Q v H1) : tXfG K a cls d f te σ H Q := k
/-- the exception's field -/
def aXf (K : PySem.W.Frag) (a : Addr) (C : Addr) (dd : Addr) (f : Str) (Q : VK) : VK := fun x H1 => x = .ref a ∧ ∃ (fs : List (Str × V)) (v : V), XfC K C ∧ PySem.W.findIn K (.ref C) f = some none ∧ H1 dd = some (.xd fs) ∧ fs.lookup f = some v ∧ Q v H1
theorem s_xfR {K : PySem.W.Frag} {a C dd : Addr} {f : Str} {te : TE} {σ : St} {H : Hp} {Q : VK} (k : te σ H (aXf K a C dd f Q)) : tXfG K a (.ref C) (some dd) f te σ H Q := by
  have e : (fun x H1 => x = V.ref a ∧ ∃ (C' dd' : Addr) (fs : List (Str × V)) (v : V), Value.ref C = .ref C' ∧ some dd = some dd' ∧ XfC K C' ∧ PySem.W.findIn K (.ref C') f = some none ∧ H1 dd' = some (.xd fs) ∧ fs.lookup f = some v ∧ Q v H1) = aXf K a C dd f Q := by
    funext x H1
    apply propext
    constructor
    · rintro ⟨e, C', dd', fs, v, h1, h2, h3⟩
      cases h1
      cases h2
      exact ⟨e, fs, v, h3⟩
    · rintro ⟨e, fs, v, h3⟩
      exact ⟨e, C, dd, fs, v, rfl, rfl, h3⟩
  unfold tXfG
  rw [e]
  exact k
theorem w_xf {K : PySem.W.Frag} {a C dd : Addr} {f : Str} {H : Hp} {Q : VK} {fs : List (Str × V)} {v : V} (hd : H dd = some (.xd fs)) (hC : XfC K C) (hn : PySem.W.findIn K (.ref C) f = some none) (hl : fs.lookup f = some v) (k : Q v H) : aXf K a C dd f Q (.ref a) H := ⟨rfl, fs, v, hC, hn, hd, hl, k⟩
theorem w_isG {K : PySem.W.Frag} {a C D dd : Addr} {H : Hp} {Q : VK} {fs : List (Str × V)} {b : Bool} (hd : H dd = some (.xd fs)) (E : ExcC K C) (e : PySem.W.kitOne K (.ref C) (.ref D) = some b) (k : Q (.bl b) H) : rIsG K a (.ref C) (some dd) [.ref a, .ref D] H Q :=
  ⟨C, dd, fs, _, _, b, rfl, rfl, rfl, hd, E, .own D, e, k⟩
theorem w_isGv {K : PySem.W.Frag} {a C dd : Addr} {n : String} {H : Hp} {Q : VK} {fs : List (Str × V)} {b : Bool} (hd : H dd = some (.xd fs)) (E : ExcC K C) (e : PySem.W.kitOne K (.ref C) (.type n) = some b) (k : Q (.bl b) H) : rIsG K a (.ref C) (some dd) [.ref a, .ty n] H Q :=
  ⟨C, dd, fs, _, _, b, rfl, rfl, rfl, hd, E, .ty n, e, k⟩

/-! ### lists of pairs of ints -/
/-- xs holds, one by one, tuples of the pairs ps -/
inductive Prs (H : Hp) : List V → List (Int × Int) → Prop
  | nil : Prs H [] []
  | cons {r xs i j ps} : H r = some (.tup [.int i, .int j]) → Prs H xs ps → Prs H (.ref r :: xs) ((i, j) :: ps)
theorem Prs.kp {H H' : Hp} {xs : List V} {ps : List (Int × Int)} (h : Prs H xs ps) (k : ∀ a o, (∃ i j, o = HO.tup [.int i, .int j]) → H a = some o → H' a = some o) : Prs H' xs ps := by
  induction h with
  | nil => exact .nil
  | cons h1 _ ih => exact .cons (k _ _ ⟨_, _, rfl⟩ h1) ih
theorem Prs.len {H : Hp} {xs : List V} {ps : List (Int × Int)} (h : Prs H xs ps) : xs.length = ps.length := by
  induction h with
  | nil => rfl
  | cons _ _ ih => simp [ih]
theorem Prs.snoc {H : Hp} {xs : List V} {ps : List (Int × Int)} {r : Addr} {i j : Int} (h : Prs H xs ps) (e : H r = some (.tup [.int i, .int j])) : Prs H (xs ++ [.ref r]) (ps ++ [(i, j)]) := by
  induction h with
  | nil => exact .cons e .nil
  | cons h1 _ ih => exact .cons h1 ih
theorem Prs.get {H : Hp} {xs : List V} {ps : List (Int × Int)} (h : Prs H xs ps) : ∀ {k : Nat} {p : Int × Int}, ps[k]? = some p → ∃ r, xs[k]? = some (.ref r) ∧ H r = some (.tup [.int p.1, .int p.2]) := by
  induction h with
  | nil => intro k p e; simp at e
  | cons h1 _ ih =>
    intro k p e
    cases k with
    | zero => simp at e; subst e; exact ⟨_, rfl, h1⟩
    | succ k => simpa using ih (by simpa using e)
theorem Prs.new {H : Hp} {xs : List V} {ps : List (Int × Int)} {p : Addr} {o : HO} (h : Prs H xs ps) (hp : H p = none) : Prs (upd H p o) xs ps := h.kp fun a u _ e => by rw [upd_ne (ne_of_none e hp)]; exact e
/-- a list is changed -/
theorem Prs.mut {H : Hp} {xs ys : List V} {ps : List (Int × Int)} {p : Addr} {o : HO} (h : Prs H xs ps) (hp : H p = some (.lst ys)) : Prs (upd H p o) xs ps := h.kp fun a u z e => by
  obtain ⟨i, j, rfl⟩ := z
  rw [upd_ne (ne_of e hp (by intro q; cases q))]; exact e
theorem Prs.kp0 {H H' : Hp} {xs : List V} {ps : List (Int × Int)} (h : Prs H xs ps) (k : Kp [] H H') : Prs H' xs ps := h.kp fun a o _ e => k a o e List.not_mem_nil
theorem Prs.nilI {H : Hp} : Prs H [] [] := .nil
end Lk
namespace Lk
open PySem PySem.W PySem.Spec PyProof.Rows L2
theorem noCX {P : Program} (w : World) (H : L2.Hp) (s : Shared) (e : Value) (s' : Shared) (h : L2N.CX P w [] H s (fun _ _ _ => False) e s') : False := by
  obtain ⟨_, _, _, _, _, _, _, _, _, _, _, _, z⟩ := h
  exact z
section
variable {P : Program} {w : World} {K : Frag} {mg : Str → Option Value} {base : Heap}
theorem FnOk_of {x qual : Str} {st : Stmt} {f : Addr} {fd : FuncData} {N ps : List Str} {k : Nat} {sp : L2.Sp} (F : L2.Fun K x qual st f fd) (S : L2.FnScope N ps (L2.defScope st)) (len : ∀ vs H Q E, sp vs H Q E → vs.length = ps.length)
    (hbody : ∀ (cdv : Value) (A : Around) (outer : List Env) (s : Shared) (H : L2.Hp) (vs : List L2.V) (Q : L2.VK) (E : L2.XK), L2.Room k (A.deeper (envOfC qual (L2.defScope st) s.heap.objs.size f cdv)) → L2N.Takes (L2.cxOf (L2N.CX P w) P w K mg base N qual (L2.defScope st) f cdv A outer s H E) (fun cls d _ H' => E cls d H') →
      PassesOwn (model P w) (L2.cxOf (L2N.CX P w) P w K mg base N qual (L2.defScope st) f cdv A outer s H E).A (L2.cxOf (L2N.CX P w) P w K mg base N qual (L2.defScope st) f cdv A outer s H E).env (L2.cxOf (L2N.CX P w) P w K mg base N qual (L2.defScope st) f cdv A outer s H E).xe → sp vs H Q E →
      ∃ t, L2.PSs (L2.cxOf (L2N.CX P w) P w K mg base N qual (L2.defScope st) f cdv A outer s H E) (L2.defBody st) t ∧ t { nx := fun _ H' => Q .non H', rt := Q } (L2.start N vs) H) : L2.FnOk P w K mg base (L2N.CX P w) (k + 1) f fd ps sp := by
  obtain ⟨oc, od, kV, doc, pm, an, cdv, ct, osl, rfl, lk, hcd⟩ := F.ex
  exact L2.fn_of lk hcd S len fun A outer s H vs Q E hr hsp => hbody cdv A outer s H vs Q E hr (L2N.takes_of rfl rfl rfl rfl) (passes_of rfl) hsp
end
/-- facts of all of a list's members -/
def AllIn (K : Frag) (C : Addr) : List Str → Prop
  | [] => True
  | f :: fs => findIn K (.ref C) f = some none ∧ AllIn K C fs
theorem all_in {K : Frag} {C : Addr} : ∀ {fs : List Str}, AllIn K C fs → ∀ f ∈ fs, findIn K (.ref C) f = some none
  | [], _ => fun f hf => by cases hf
  | g :: fs, h => fun f hf => by
    rcases List.mem_cons.mp hf with z | z
    · rw [z]; exact h.1
    · exact all_in h.2 f z
section
variable {K : Frag} {C D : Addr} {b : Bool}
/-- D is an exception class -/
structure DC (K : Frag) (D : Addr) : Prop where
  i : isClsIn K D = true
  t : typeIn K (.ref D) = some (.type "type")
  b : subIn K (.ref D) (.type "BaseException") = some true
theorem kit_cls' (d : DC K D) (s : subIn K (.ref C) (.ref D) = some b) : kitCls K (.ref C) (.ref D) = some b := by
  have h2' : (clsIn K D).isSome = true := d.i
  have e2 : ((clsIn K D).isSome && typeIn K (.ref D) == some (.type "type")) = true := by
    rw [h2', d.t] <;> rfl
  show (if ((clsIn K D).isSome && typeIn K (.ref D) == some (.type "type")) = true then subIn K (.ref C) (.ref D) else none) = some b
  rw [if_pos e2]
  exact s
theorem kit_mk (d : DC K D) (r : subIn K (.ref C) (.ref C) = some true) (s : subIn K (.ref C) (.ref D) = some b) : kitOne K (.ref C) (.ref D) = some b ∧ exmOne K (.ref C) (.ref D) = some b := by
  have k := kit_cls' d s
  refine ⟨?_, ?_⟩
  · unfold kitOne
    by_cases z : C = D
    · subst z
      rw [r] at s
      rw [← s]
      rw [if_pos (by simp)]
    · rw [if_neg (by simp [z])]
      exact k
  · unfold exmOne
    rw [if_pos (by rw [d.b] <;> rfl)]
    exact k
theorem kit_val (s : subIn K (.ref C) (.type "ValueError") = some true) : kitOne K (.ref C) (.type "ValueError") = some true := by
  have e : kitOne K (.ref C) (.type "ValueError") = if kitMeta "ValueError" = true then subIn K (.ref C) (.type "ValueError") else none := rfl
  rw [e, if_pos (by decide +kernel)]
  exact s
/-- what an own exception's class says -/
theorem exc_ef (hg : findIn K (.ref C) "__getattribute__" = some (some (.builtin "BaseException.__getattribute__"))) (hk : findIn K (.ref C) "__getattr__" = some none) (hs : subIn K (.ref C) (.type "BaseException") = some true) (hd : hasDictIn K C = true)
    (ha : findIn K (.ref C) "__class__" = some (some (.builtin "object.__class__"))) (hn : specialIn K (.builtin "object.__class__") "__get__" = some (some (.builtin "getset_descriptor.__get__"))) (ht : takesIn K (.builtin "object.__class__") = some true) (hm : mroIn K C (.type "object") = some true) : L2.ExcC K C ∧ L2.XfC K C :=
  ⟨⟨hg, hk, hs, hd, ha, hn, ht, hm⟩, ⟨hg, hk, hs, hd⟩⟩
theorem nm_mk {h : Heap} {mg : Str → Option Value} {x : Str} {st : Stmt} {f : Addr} {oc : Value} {od an : Option Addr} {osl : Array (Option Value)} {kV doc pm cdv ct : Value} (X : K.In h) (G : h.Ns mainGlobals mg) (a : nsIn K mainGlobals x = some (some (.ref f)))
    (l : K.lookup f = some ⟨oc, od, .func (fnOf x x (L2.defArgs st) (L2.defBody st) (L2.defScope st) .none kV doc pm an cdv ct), osl⟩) (c : codeIn K cdv x = true) (k : keepIn K (.ref f) = true) :
    Nm K mg x f ∧ L2.Fun K x x st f (fnOf x x (L2.defArgs st) (L2.defBody st) (L2.defScope st) .none kV doc pm an cdv ct) := ⟨⟨mg_of X G a, k⟩, L2.fun_mk l c k⟩
end
end Lk
namespace LkX
open PySem PySem.W PySem.Calls PyProof.Rows PySem.HandSPX
theorem exc_mk {prog : Program} {K : Frag} {C fI : Addr} {fs : List Str} {st : Stmt} {qual : Str} {nm q : Str} {N : Addr} {bs bm : List Value} {sn : List Str} {sub : List Value} {ab : Bool} {col : Option Bool} {dd : Option Addr} {k0 k1 k2 k3 k5 : Option Value}
    {oc : Value} {od : Option Addr} {doc pm : Value} {an : Option Addr} {cda : Addr} {ct : Value} {cc : Addr} {osl : Array (Option Value)} {ccl : Value} {cdd : Option Addr} {cvs : Array Value} {ccs : Array (Option Value)} {file : Str} {tf : Tok} {cl : Value} {cld : Option Addr} {csl : Array (Option Value)} {ar : Arg}
    (iC : findIn K (.ref C) "__init__" = some (some (.ref fI)))
    (xL : K.lookup C = some (excClassObj nm q C N bs bm true sn sub ab col dd k0 k1 k2 k3 k5 "ValueError.__new__"))
    (l : K.lookup fI = some ⟨oc, od, .func (ksFn "__init__" qual (L2.defArgs st) (L2.defBody st) (L2.defScope st) .none .none doc pm an (.ref cda) ct cc), osl⟩) (c : codeIn K (.ref cda) qual = true)
    (l2 : K.lookup cda = some ⟨ccl, cdd, .fields cvs, ccs⟩) (l3 : K.lookup cc = some ⟨cl, cld, .cell (some (.ref C)), csl⟩)
    (sa : findIn K (.ref C) "__setattr__" = some (some (.builtin "object.__setattr__"))) (tI : typeIn K (.ref fI) = some (.type "function")) (kC : keepIn K (.ref C) = true) (exC : subIn K (.ref C) (.type "BaseException") = some true)
    (tyC : typeIn K (.ref C) = some (.type "type")) (vE : subIn K (.ref C) (.type "ValueError") = some true) (op : nsIn K cStatics "thirdparty.any" = some none) (gs : nsIn K mainGlobals "super" = some none)
    (su : ks_superIn K C C "__init__" = some (some (.builtin "ValueError.__init__"))) (bmv : refsVE bm = true) (noN : ∀ f ∈ fs, findIn K (.ref C) f = some none)
    (v2 : cvs[2]? = some (.str file tf)) (fil : ((prog.main.file : Str) == file) = true) (ib : InitBody fs (L2.defBody st)) (hd : ((L2.defArgs st).posonlyargs ++ (L2.defArgs st).args).head? = some ar) (har : ar.arg = "self")
    (s0 : (prog.main.scope.names.lookup ("super" : Str)).isSome = false) (s1 : (L2.defScope st).names.lookup ("super" : Str) = some .globalImplicit) (s2 : (L2.defScope st).names.lookup ("__class__" : Str) = some .free) (s3 : ∀ x ∈ (L2.defScope st).names, x.2 ≠ .cell)
    (s4 : ∀ f ∈ ("self" : Str) :: fs, (L2.defScope st).names.lookup f = some .local) (s5 : (L2.defScope st).isCoroutine = false) (s6 : (L2.defScope st).isGenerator = false) (s7 : (L2.defScope st).kind = .function)
    (ba : ∀ us : List Value, us.length = (("self" : Str) :: fs).length → bindArgs (ksFn "__init__" qual (L2.defArgs st) (L2.defBody st) (L2.defScope st) .none .none doc pm an (.ref cda) ct cc) ⟨us, []⟩ = pure ((("self" : Str) :: fs).zip us))
    (nd : (("self" : Str) :: fs).Nodup) (nb : ∀ f ∈ ("self" : Str) :: fs, (f == ("__debug__" : Str)) = false) (few : fs.length ≤ 100) : ExcTxt prog K C fI fs where
  cls := ⟨nm, q, N, bs, bm, sn, sub, ab, col, dd, k0, k1, k2, k3, k5, xL, bmv⟩
  sa := sa
  noN := noN
  iC := iC
  tI := tI
  kC := kC
  exC := exC
  tyC := tyC
  vE := vE
  su := su
  op := op
  gs := gs
  fn := ⟨qual, _, _, _, oc, od, doc, pm, an, cda, ct, cc, osl, ccl, cdd, cvs, ccs, file, tf, cl, cld, csl, ar, l, c, l2, v2, fil, l3, ib, hd, har, s0, s1, s2, s3, s4, s5, s6, s7, ba⟩
  nd := nd
  nb := nb
  few := few
end LkX
namespace Lk
open PySem PySem.Spec PyProof.Rows L2

/-! ### static methods -/
/-- C.m is a static method: its record at p, its def at g -/
structure CSta (K : PySem.W.Frag) (C : Addr) (m : Str) (p g : Addr) : Prop where
  at_ : PySem.W.findCls K (.ref C) (.type "type") m = some (.get (.builtin "staticmethod.__get__") (.ref p) .none (.ref C))
  rc : ∃ rest, PySem.W.recIn K p "staticmethod" = some (.ref g :: rest)
  kp : PySem.W.keepIn K (.ref g) = true
theorem CSta.mk' {K : PySem.W.Frag} {C : Addr} {m : Str} {p g : Addr} {rest : List Value} (a : PySem.W.findCls K (.ref C) (.type "type") m = some (.get (.builtin "staticmethod.__get__") (.ref p) .none (.ref C))) (b : PySem.W.recIn K p "staticmethod" = some (.ref g :: rest)) (c : PySem.W.keepIn K (.ref g) = true) : CSta K C m p g := ⟨a, ⟨rest, b⟩, c⟩
section
variable {X : Cx} {pins : List (Addr × Obj)} {σ : St} {H : Hp} {s : Shared} {C p g : Addr} {m : Str} {A : Around} {E : Value → Shared → Prop}
theorem getmethst_ok {pl : Sem Bool} {Q : Value × List Value → Shared → Prop} (I : Inv X pins σ H s) (r : ClX.CRead X.K C (.type "type")) (k : CSta X.K C m p g)
    (h : ∀ s', Inv X pins σ H s' → Q (.ref g, []) s') : wpAny (model X.prog X.w) A (getMethod (.ref C) m pl) Q E s := by
  obtain ⟨rest, hp⟩ := k.rc
  refine PySem.W.method_cls I.kIn r.ga (PySem.W.cls_bind I.kIn r.rd k.at_ ?_)
  refine wpAny_call (PySem.W.sm_get (s := { s with toks := s.toks + 1 }) I.kIn hp (PySem.W.handed_on rfl ?_))
  exact h _ (I.tok _)
end
section
variable {X : Cx} {k : Nat} {f C p0 g : Addr} {ps : List Str} {sp : Sp} {W : WX} {x m : Str} {p pos apos : Pos} {e o : Expr} {es : List Expr} {ta : TE} {t : TA}
/-- how o.m(args) goes -/
def MTree (X : Cx) (pl : Sem Bool) (o : Expr) (m : Str) (args : List Expr) (pos apos : Pos) : Prop :=
  eval (.Call (.Attribute o m apos) args [] pos) X.env = (do let obj ← eval o X.env; standAt apos.atName; let (fn, fst) ← holding [obj] (getMethod obj m pl); callWith pos fn fst (backTo pos (starEach args X.env)) (backToKw pos (keywordEach [] X.env)))
/-- C.m(e, ..), m static -/
theorem pe_static {pl : Sem Bool} (G : FnA X.prog X.w X.K X.mg X.base k g ps sp) (hr : Room k X.A) (r : ClX.CRead X.K C (.type "type")) (c : CSta X.K C m p0 g) (hm : X.mg x = some (.ref C)) (tk : L2N.Takes X W)
    (ha : PA X (e :: es) t) (hg : Gl X x := by rfl) (hdb : (x == ("__debug__" : Str)) = false := by decide) (hst : starEach (e :: es) X.env = (false, eval e X.env) :: starEach es X.env := by rfl) (hpl : (backTo pos (starEach es X.env)).any (·.1) = false := by rfl) (ht : MTree X pl (.Name x p) m (e :: es) pos apos := by rfl) :
    PE X (.Call (.Attribute (.Name x p) m apos) (e :: es) [] pos) (tCallS sp (WE W) t) := by
  obtain ⟨fd, F, b⟩ := G
  refine ⟨fun pins s σ H Q I h => ?_⟩
  refine PySem.W.methodCall_KW (pl := pl) (ld_glob I hg hm ?_ hdb) ht
  refine getmethst_ok I r c fun s2 I2 => ?_
  refine PySem.W.callWith_K (first := []) (h₀ := X.base) I.ok.mod.kin c.kp (thn (ha.run pos pins s2 σ H _ I2 h) fun us s3 ⟨vs, H2, I3, rv, q2⟩ => ⟨I3.kIn, ?_⟩) hst hpl
  exact run_fnS (E := WE W) F hr b (L2N.passAt tk σ) I3 rv q2
/-! ### methods of instances -/
/-- o.m(..) -/
def tMethS (K : PySem.W.Frag) (C : Addr) (m : Str) (sp : Sp) (E : St → XK) (ta : TE) (t : TA) : TE := fun σ H Q => ta σ H fun x H1 => ∃ a dx fs, x = .ref a ∧ H1 a = some (.ins C dx fs) ∧ fs.lookup m = none ∧ t σ H1 fun vs H2 => sp (x :: vs) H2 Q (E σ)
theorem pe_methS {pl : Sem Bool} (G : FnA X.prog X.w X.K X.mg X.base k f ps sp) (hr : Room k X.A) (c : Cls X.K C) (hm : Meth X.K C m f) (tk : L2N.Takes X W) (he : PE X o ta) (ha : PA X (e :: es) t)
    (hst : starEach (e :: es) X.env = (false, eval e X.env) :: starEach es X.env := by rfl) (hpl : (backTo pos (starEach es X.env)).any (·.1) = false := by rfl) (ht : MTree X pl o m (e :: es) pos apos := by rfl) :
    PE X (.Call (.Attribute o m apos) (e :: es) [] pos) (tMethS X.K C m sp (WE W) ta t) := by
  obtain ⟨fd, F, b⟩ := G
  refine ⟨fun pins s σ H Q I h => ?_⟩
  refine PySem.W.methodCall_KW (pl := pl) (thn (he.run pins s σ H _ I h) fun u s1 ⟨x, H1, I1, rx, a, dx, fs, ex, ea, l, q⟩ => ?_) ht
  subst ex
  obtain rfl : u = Value.ref a := rx
  refine getmeth_ok I1 ea c hm l ?_
  refine PySem.W.callWith_K (first := [.ref a]) (h₀ := X.base) I.ok.mod.kin hm.kp (thn (ha.run pos pins s1 σ H1 _ I1 q) fun us s2 ⟨vs, H2, I2, r, q2⟩ => ⟨I2.kIn, ?_⟩) hst hpl
  exact run_fnS (E := WE W) (us := .ref a :: us) (vs := .ref a :: vs) F hr b (L2N.passAt tk σ) I2 (.cons rfl r) q2
theorem pe_methS0 {pl : Sem Bool} (G : FnA X.prog X.w X.K X.mg X.base k f ps sp) (hr : Room k X.A) (c : Cls X.K C) (hm : Meth X.K C m f) (tk : L2N.Takes X W) (he : PE X o ta) (ht : MTree X pl o m [] pos apos := by rfl) :
    PE X (.Call (.Attribute o m apos) [] [] pos) (tMethS X.K C m sp (WE W) ta tNil) := by
  obtain ⟨fd, F, b⟩ := G
  refine ⟨fun pins s σ H Q I h => ?_⟩
  refine PySem.W.methodCall_KW (pl := pl) (thn (he.run pins s σ H _ I h) fun u s1 ⟨x, H1, I1, rx, a, dx, fs, ex, ea, l, q⟩ => ?_) ht
  subst ex
  obtain rfl : u = Value.ref a := rx
  refine getmeth_ok I1 ea c hm l ?_
  exact PySem.W.callWith_K0 (first := [.ref a]) I1.kIn hm.kp (run_fnS (E := WE W) (us := [.ref a]) (vs := [.ref a]) F hr b (L2N.passAt tk σ) I1 (.cons rfl .nil) q)
/-! ### C(e, ..) -/
def tMakeS (C : Addr) (sp : Sp) (E : St → XK) (t : TA) : TE := fun σ H Q => t σ H fun vs H1 => ∀ x dx, H1 x = none → H1 dx = none → dx ≠ x →
  sp (.ref x :: vs) (upd (upd H1 dx (.own x)) x (.ins C dx [])) (fun v H2 => v = .non ∧ Q (.ref x) H2) (E σ)
theorem pe_makeS (G : FnA X.prog X.w X.K X.mg X.base k f ps sp) (M : Mk X.K C f) (hr : Room (k + 1) X.A) (hm : X.mg x = some (.ref C)) (tk : L2N.Takes X W)
    (ha : PA X (e :: es) t) (hg : Gl X x := by rfl) (hdb : (x == ("__debug__" : Str)) = false := by decide) (he : starEach (e :: es) X.env = (false, eval e X.env) :: starEach es X.env := by rfl) (hpl : (backTo pos (starEach es X.env)).any (·.1) = false := by rfl) :
    PE X (.Call (.Name x p) (e :: es) [] pos) (tMakeS C sp (WE W) t) := by
  obtain ⟨fd, F, b⟩ := G
  refine ⟨fun pins s σ H Q I h => ?_⟩
  refine wpAny_Call_Name_kw (ld_glob I hg hm ?_ hdb)
  refine PySem.W.callWith_K (h₀ := X.base) I.ok.mod.kin M.kp (thn (ha.run pos pins s σ H _ I h) fun us s1 ⟨vs, H1, I1, r, q⟩ => ⟨I1.kIn, ?_⟩) he hpl
  have hq := q (s1.heap.objs.size + 1) s1.heap.objs.size (I1.hok.fresh (Nat.le_succ _)) (I1.hok.fresh (Nat.le_refl _)) (Nat.ne_of_lt (Nat.lt_succ_self _))
  have I2 := Inv.made (C := C) I1
  have r2 : Vals (V.ref (s1.heap.objs.size + 1) :: vs) (Value.ref (s1.heap.objs.size + 1) :: us) := .cons rfl r
  have hl : ((Value.ref (s1.heap.objs.size + 1) :: us) ++ []).length = ps.length := by
    rw [List.append_nil, ← r2.length]; exact F.len _ _ _ _ hq
  have hb2 := b _ (Value.ref (s1.heap.objs.size + 1) :: us) I2.kIn hl
  rw [List.append_nil] at hb2
  refine wpAny_call (make_map (f := f) I1.kIn M.makes M.init (beq_iff_eq.mp M.fn) (codeAny_mono (F.run _ X.stack _ _ ⟨Value.ref (s1.heap.objs.size + 1) :: us, []⟩ (Value.ref (s1.heap.objs.size + 1) :: us) _ _ _ (hr.make C us [])
    (I2.env0.make C us []) hb2 r2 hq) fun r s' hq' => ?_))
  cases r with
  | error e => exact L2N.passAt tk σ pins _ _ e s' I2 hq'
  | ok fl =>
    cases fl with
    | ret u =>
      obtain ⟨v, H', I3, rv, ev, q3⟩ := I2.after hq'
      subst ev
      exact ⟨rv, ⟨V.ref (s1.heap.objs.size + 1), H', I3, rfl, q3⟩⟩
    | next => exact False.elim hq'
    | brk => exact False.elim hq'
    | cont => exact False.elim hq'
end
/-! ### the readings, one step -/
section
variable {σ : St} {H : Hp} {Q : VK} {D : Ends} {te tv : TE} {tl : TA} {K : PySem.W.Frag} {C a dx p : Addr} {f m : Str} {fs : List (Str × V)} {v y : V} {sp : Sp} {E : St → XK} {A : Prop}
/-- x.f -/
def aFld (K : PySem.W.Frag) (f : Str) (Q : VK) : VK := fun x H1 => ∃ a C dx fs v, x = .ref a ∧ H1 a = some (.ins C dx fs) ∧ Cls K C ∧ NoAttr K C f ∧ fs.lookup f = some v ∧ Q v H1
theorem s_fld (k : te σ H (aFld K f Q)) : tFld K te f σ H Q := k
theorem w_fld (hp : H a = some (.ins C dx fs)) (c : Cls K C) (n : NoAttr K C f) (l : fs.lookup f = some v) (k : Q v H) : aFld K f Q (.ref a) H := ⟨a, C, dx, fs, v, rfl, hp, c, n, l, k⟩
/-- x.f = y -/
def aSFld (K : PySem.W.Frag) (f : Str) (y : V) (k : Hp → Prop) : VK := fun x H2 => ∃ a C dx fs, x = .ref a ∧ H2 a = some (.ins C dx fs) ∧ Cls K C ∧ NoAttr K C f ∧ fs.length < 1000 ∧ k (upd H2 a (.ins C dx (putF f y fs)))
theorem s_sfld (k : tv σ H fun y H1 => te σ H1 (aSFld K f y fun H3 => D.nx σ H3)) : sFld K te tv f D σ H := k
theorem w_sfld {k : Hp → Prop} {fs' : List (Str × V)} (hp : H a = some (.ins C dx fs)) (c : Cls K C) (n : NoAttr K C f) (l : fs.length < 1000) (e : putF f y fs = fs') (q : k (upd H a (.ins C dx fs'))) : aSFld K f y k (.ref a) H :=
  ⟨a, C, dx, fs, rfl, hp, c, n, l, by rw [e]; exact q⟩
/-- x.m(..): the object -/
def aMeth (C : Addr) (m : Str) (k : V → Hp → Prop) : VK := fun x H1 => ∃ a dx fs, x = .ref a ∧ H1 a = some (.ins C dx fs) ∧ fs.lookup m = none ∧ k x H1
theorem s_methS (k : te σ H (aMeth C m fun x H1 => tl σ H1 fun vs H2 => sp (x :: vs) H2 Q (E σ))) : tMethS K C m sp E te tl σ H Q := k
theorem w_meth {k : V → Hp → Prop} (hp : H a = some (.ins C dx fs)) (l : fs.lookup m = none) (q : k (.ref a) H) : aMeth C m k (.ref a) H := ⟨a, dx, fs, rfl, hp, l, q⟩
theorem s_makeS (k : tl σ H fun vs H1 => ∀ x dx, H1 x = none → H1 dx = none → dx ≠ x → sp (.ref x :: vs) (upd (upd H1 dx (.own x)) x (.ins C dx [])) (fun v H2 => v = .non ∧ Q (.ref x) H2) (E σ)) : tMakeS C sp E tl σ H Q := k
def aCVal (K : PySem.W.Frag) (f : Str) (Q : VK) : VK := fun x H1 => ∃ C mc v u, x = .ref C ∧ ClX.CRead K C mc ∧ ClX.CVal K C mc f v u ∧ Q v H1
theorem s_cval (k : te σ H (aCVal K f Q)) : ClX.tCVal K te f σ H Q := k
theorem w_cval {mc u : Value} (r : ClX.CRead K C mc) (c : ClX.CVal K C mc f v u) (k : Q v H) : aCVal K f Q (.ref C) H := ⟨C, mc, v, u, rfl, r, c, k⟩
end
theorem put_nil {f : Str} {v : V} : putF f v [] = [(f, v)] := rfl
theorem put_hit {f : Str} {v x : V} {r : List (Str × V)} : putF f v ((f, x) :: r) = (f, v) :: r := by
  unfold putF
  rw [if_pos rfl]
theorem put_miss {f g : Str} {v x : V} {r r' : List (Str × V)} (n : g ≠ f) (e : putF f v r = r') : putF f v ((g, x) :: r) = (g, x) :: r' := by
  rw [← e]
  show (if g = f then _ else _) = _
  rw [if_neg n]
end Lk
namespace Lk
open PySem PySem.Spec PyProof.Rows L2

/-! ### a range that is kept, then walked -/
section
variable {X : Cx} {tg : Expr}
def iRngV (te : TE) : TI := fun σ H R => te σ H fun x H1 => ∃ p lo hi, x = .ref p ∧ H1 p = some (.rng lo hi) ∧ (-(2 ^ 62) ≤ lo ∧ lo < 2 ^ 62 ∧ -(2 ^ 62) ≤ hi ∧ hi < 2 ^ 62) ∧ R (Itr lo (hi - lo).toNat) H1
theorem pi_rng {e : Expr} {te : TE} (he : PE X e te) : PI X tg e (iRngV te) := by
  refine ⟨fun pins s σ H R I h => ?_⟩
  refine thn (he.run pins s σ H _ I h) fun v0 s1 ⟨x, H1, I1, r1, q1⟩ => ?_
  obtain ⟨p, lo, hi, ex, hp, ⟨h1, h2, h3, h4⟩, q⟩ := q1
  subst ex
  cases r1
  obtain ⟨t, u, v, ho⟩ : ∃ t u v, s1.heap.get? p = some { cls := .type "range", data := .fields #[.int lo t, .int hi u, .int 1 v] } := I1.hok p _ hp
  refine wpAny_pyIter_range (a := lo) (b := hi) (c := 1) (t := t) (u := u) (v := v) ho (small_one h1 h2 h3 h4) ?_
  refine ⟨s1.heap.objs.size, [s1.heap.objs.size], _, _, H1, rfl, I1.kept (t' := s1.toks) fun b o e => Heap.get?_push_of_some _ e, turn_range _ lo (hi - lo).toNat, ?_, fun b hb => ?_, q⟩
  · have e1 : lo + ((0 : Nat) : Int) * 1 = lo := by simp
    have e2 : (((hi - lo).toNat : Nat) : Int) - ((0 : Nat) : Int) = Builtin.Range.rangeSize lo hi 1 := by rw [rangeSize_one]; split <;> omega
    show IsRangeIter _ _ (lo + ((0 : Nat) : Int) * 1) ((((hi - lo).toNat : Nat) : Int) - ((0 : Nat) : Int)) 1
    rw [e1, e2]
    exact Heap.get?_push_size _ rfl
  · have e : b = s1.heap.objs.size := by simpa using hb
    subst e
    exact I1.fpOk (Nat.le_refl _) (I1.hok.fresh (Nat.le_refl _))
def rRange2 : List V → Hp → VK → Prop := fun vs H Q => ∃ i j, vs = [V.int i, V.int j] ∧ ∀ p, H p = none → Q (.ref p) (upd H p (.rng i j))
theorem b_range2 : CallR X (.type "range") rRange2 := cr_range2
/-! ### texts -/
def rJoin (K : PySem.W.Frag) : V → List V → Hp → VK → Prop := fun x xs H Q => ∃ a p, ∃ ys : List Str, x = .str a ∧ xs = [.ref p] ∧ (SqL K H p (ys.map V.str) ∨ SqT K H p (ys.map V.str)) ∧ (ys.map (·.length)).sum + ys.length * a.length ≤ 16777216 ∧ Q (.str (Txt.join a ys)) H
theorem m_join : MtR X "str.join" (rJoin X.K) := mt_join
def rSplit : V → List V → Hp → VK → Prop := fun x xs H Q => ∃ a b, x = .str a ∧ xs = [.str b] ∧ (b.length == 0) = false ∧ a.length + 2 ≤ sizeLine ∧ rNewStrs (Txt.split a b) H Q
theorem m_split : MtR X "str.split" rSplit := mt_split
def rDigit : V → List V → Hp → VK → Prop := fun x xs H Q => ∃ a, x = .str a ∧ xs = [] ∧ True ∧ Q (.bl (Txt.isdigit a)) H
theorem m_isdigit : MtR X "str.isdigit" rDigit := mt_isdigit
def rAscii : V → List V → Hp → VK → Prop := fun x xs H Q => ∃ a, x = .str a ∧ xs = [] ∧ True ∧ Q (.bl (Txt.isascii a)) H
theorem m_isascii : MtR X "str.isascii" rAscii := mt_isascii
def rIntS : List V → Hp → VK → Prop := fun xs H Q => ∃ a n, xs = [.str a] ∧ PySem.intText? a = some n ∧ a.length ≤ 640 ∧ Q (.int n) H
def rIntA : List V → Hp → VK → Prop := fun xs H Q => rInt1 xs H Q ∨ rIntS xs H Q
theorem b_intA : CallR X (.type "int") rIntA := CallR.or b_int call_int_str
def rStrI : List V → Hp → VK → Prop := fun xs H Q => ∃ i : Int, xs = [.int i] ∧ i.natAbs.log2 < 1920 ∧ Q (.str (Str.ofString (toString i))) H
theorem b_str : CallR X (.type "str") rStrI := call_str_int
end
section
variable {K : PySem.W.Frag} {H : Hp} {Q : VK} {a b : Str} {p : Addr} {ys : List Str} {i j n : Int} {us : List Int} {α : Type} {f : α → V} {vs : List α}
theorem w_join (hp : H p = some (.lst (ys.map V.str))) (hz : (ys.map (·.length)).sum + ys.length * a.length ≤ 16777216) (k : Q (.str (Txt.join a ys)) H) : rJoin K (.str a) [.ref p] H Q := ⟨a, p, ys, rfl, rfl, .inl (SqL.of hp), hz, k⟩
theorem w_split (hb : (b.length == 0) = false) (hz : a.length + 2 ≤ sizeLine) (k : ∀ p, H p = none → Q (.ref p) (upd H p (.lst ((Txt.split a b).map V.str)))) : rSplit (.str a) [.str b] H Q := ⟨a, b, rfl, rfl, hb, hz, k⟩
theorem w_digit (k : Q (.bl (Txt.isdigit a)) H) : rDigit (.str a) [] H Q := ⟨a, rfl, rfl, trivial, k⟩
theorem w_ascii (k : Q (.bl (Txt.isascii a)) H) : rAscii (.str a) [] H Q := ⟨a, rfl, rfl, trivial, k⟩
theorem w_intA (k : Q (.int i) H) : rIntA [.int i] H Q := .inl (w_int k)
theorem w_intB {c : Bool} (k : Q (.int (if c then 1 else 0)) H) : rIntA [.bl c] H Q := .inl (.inr ⟨c, rfl, k⟩)
theorem w_intS (h : PySem.intText? a = some n) (hl : a.length ≤ 640) (k : Q (.int n) H) : rIntA [.str a] H Q := .inr ⟨a, n, rfl, h, hl, k⟩
theorem w_strI (h : i.natAbs.log2 < 1920) (k : Q (.str (Str.ofString (toString i))) H) : rStrI [.int i] H Q := ⟨i, rfl, h, k⟩
theorem w_rngV (k : ∀ p, H p = none → Q (.ref p) (upd H p (.rng i j))) : rRange2 [.int i, .int j] H Q := ⟨i, j, rfl, k⟩
theorem w_ixQ [Inhabited α] (hp : SqL K H p (vs.map f)) (h0 : 0 ≤ i) (hl : i.toNat < vs.length) (k : Q (f (vs.getD i.toNat default)) H) : rIx K (.ref p) (.int i) H Q :=
  .inl ⟨p, _, _, _, rfl, rfl, hp, atI_pos h0 (map_getD hl), k⟩
theorem w_lenQ (hp : SqL K H p (vs.map f)) (k : Q (.int vs.length) H) : rLen K [.ref p] H Q := ⟨_, _, rfl, .inl ⟨_, hp, rfl⟩, by rw [List.length_map]; exact k⟩
end
section
variable {σ : St} {H : Hp} {Q : VK} {D : Ends} {g : TG} {tt : TT} {te tl : TE} {tb : TS} {K : PySem.W.Frag} {vs : List Nat} {α β : Type} {f : α → V} {f' : β → V}
def aCRngV (g : TG) (tt : TT) (te : TE) (vs : List Nat) (σ : St) (Q : VK) (x : V) (H1 : Hp) : Prop := ∃ p lo hi, x = .ref p ∧ H1 p = some (.rng lo hi) ∧ (-(2 ^ 62) ≤ lo ∧ lo < 2 ^ 62 ∧ -(2 ^ 62) ≤ hi ∧ hi < 2 ^ 62) ∧ aComp (Itr lo (hi - lo).toNat) g tt te vs σ Q H1
theorem s_lcV (k : tl σ H fun x H1 => aCRngV g tt te vs σ Q x H1) : tLc (iRngV tl) g tt te vs σ H Q := k
theorem w_lcV (ψ : Nat → Option β) {p : Addr} {lo n : Int} (hp : H p = some (.rng lo n)) (hl1 : -(2 ^ 62) ≤ lo) (hl2 : lo < 2 ^ 62) (hn1 : -(2 ^ 62) ≤ n) (hn2 : n < 2 ^ 62) (hz : (n - lo).toNat < sizeLine)
    (hs : ∀ (D : Addr) (i : Nat) (acc : List V) (H' : Hp), H D = none → lo + (i : Int) < n → Kp [] H H' → H' D = some (.lst acc) → acc.length < sizeLine → g (.int (lo + (i : Int))) (wipe σ vs) H' fun σ2 H2 => wipe σ2 vs = wipe σ vs ∧ tt σ2 H2 fun b H3 =>
      if b = true then te σ2 H3 (aKeep H D (acc ++ (ψ i).toList.map f')) else cNx H D (acc ++ (ψ i).toList.map f') H3)
    (k : ∀ D H', H D = none → Kp [] H H' → H' D = some (.lst (((List.range (n - lo).toNat).filterMap ψ).map f')) → Q (.ref D) H') : aCRngV g tt te vs σ Q (.ref p) H :=
  ⟨p, lo, n, rfl, hp, ⟨hl1, hl2, hn1, hn2⟩, w_lcR ψ hl1 hl2 hn1 hn2 hz hs k⟩
theorem w_lcE (ψ : Nat → α → Option β) {us : List α} {p : Addr} {j j' : Nat} (hp : H p = some (.lst (us.map f))) (hz : us.length < sizeLine)
    (hs : ∀ (D : Addr) (i : Nat) (u : α) (T : Addr) (acc : List V) (H' : Hp), H D = none → us[i]? = some u → Kp [] H H' → H' D = some (.lst acc) → acc.length < sizeLine → H' T = none → T ≠ D →
      wipe (((wipe σ vs).set j (some (.int (i : Int)))).set j' (some (f u))) vs = wipe σ vs ∧ tt (((wipe σ vs).set j (some (.int (i : Int)))).set j' (some (f u))) (upd H' T (.tup [.int (i : Int), f u])) fun b H3 =>
      if b = true then te (((wipe σ vs).set j (some (.int (i : Int)))).set j' (some (f u))) H3 (aKeep H D (acc ++ (ψ i u).toList.map f')) else cNx H D (acc ++ (ψ i u).toList.map f') H3)
    (k : ∀ D H', H D = none → Kp [] H H' → H' D = some (.lst ((us.zipIdx.filterMap fun q => ψ q.2 q.1).map f')) → Q (.ref D) H') : aCEnum K (gTup K 2 (gCons (gName j) (gCons (gName j') gNil))) tt te vs σ Q [.ref p] H := by
  refine ⟨p, _, rfl, SqL.of hp, fun D hD => ?_⟩
  refine ⟨fun i m H' => m = us.length - i ∧ i ≤ us.length ∧ cNx H D (((us.take i).zipIdx.filterMap fun q => ψ q.2 q.1).map f') H', ⟨us.length, by simp, Nat.zero_le _, ⟨Kp.refl.new hD, upd_same⟩⟩, ?_⟩
  rintro i m H' ⟨rfl, hi, q1, q2⟩
  have hpp := q1.at0 hp
  by_cases hlt : i < us.length
  · have hu : us[i]? = some us[i] := List.getElem?_eq_getElem hlt
    refine .inr ⟨⟨us.map f, f us[i], SqL.of hpp, by rw [List.getElem?_map, hu]; rfl⟩, cNx H D (((us.take (i + 1)).zipIdx.filterMap fun q => ψ q.2 q.1).map f'), fun H2 p' => ⟨us.length - (i + 1), by omega, rfl, hlt, p'⟩, fun x H2 y => ?_⟩
    obtain ⟨T, z, e1, e2, e3, y⟩ := y
    subst e1 e3
    have ez := y _ (SqL.of hpp)
    rw [List.getElem?_map, hu] at ez
    cases ez
    have hlen : (((us.take i).zipIdx.filterMap fun q => ψ q.2 q.1).map f').length < sizeLine := by
      have := List.length_filterMap_le (fun q : α × Nat => ψ q.2 q.1) (us.take i).zipIdx
      rw [List.length_zipIdx, List.length_take] at this
      rw [List.length_map]
      omega
    have hT : T ≠ D := Ne.symm (ne_of_none q2 e2)
    have e : us.take (i + 1) = us.take i ++ [us[i]] := by
      rw [List.take_succ, hu]; rfl
    have e2' : ((us.take (i + 1)).zipIdx.filterMap fun q => ψ q.2 q.1).map f' = ((us.take i).zipIdx.filterMap fun q => ψ q.2 q.1).map f' ++ (ψ i us[i]).toList.map f' := by
      rw [e, List.zipIdx_append, List.filterMap_append, List.map_append]
      have hl : (us.take i).length = i := by rw [List.length_take]; omega
      rw [hl]
      cases q : ψ i us[i] <;> simp [q]
    rw [e2']
    exact ⟨T, _, rfl, .inl (.inl upd_same), rfl, _, _, rfl, _, _, rfl, rfl, hs D i _ T _ H' hD hu q1 q2 hlen e2 hT⟩
  · have e : i = us.length := by omega
    subst e
    rw [List.take_length] at q2
    exact .inl ⟨⟨_, SqL.of hpp, by simp⟩, k D H' hD q1 q2⟩
end
/-! ### list(range(a, b)) -/
def rgI (a b : Int) : List Int := (List.range (b - a).toNat).map fun i : Nat => a + (i : Int)
theorem rgV_int (a b : Int) : rgV a b = (rgI a b).map V.int := by
  unfold rgV rgI
  rw [List.map_map]; rfl
theorem rgI_len (a b : Int) : (rgI a b).length = (b - a).toNat := by
  unfold rgI
  rw [List.length_map, List.length_range]
theorem rgI_get {a b : Int} {i : Nat} (h : i < (b - a).toNat) : (rgI a b)[i]? = some (a + (i : Int)) := by
  unfold rgI
  rw [List.getElem?_map, List.getElem?_range h]; rfl
def aRgL : R2 := fun x y H Q => ∃ i j, x = .int i ∧ y = .int j ∧ RgOk i j ∧ ∀ q, H q = none → Q (.ref q) (upd H q (.lst (rgV i j)))
section
variable {σ : St} {H : Hp} {Q : VK} {ta tb : TE} {i j : Int} {p q : Addr} {us : List Int}
theorem s_listRg (k : ta σ H fun x H1 => tb σ H1 fun y H2 => aRgL x y H2 Q) : tLstRg (tRg2 ta tb) σ H Q := by
  refine ?_
  unfold tLstRg tRg2
  have e : ∀ (x y : V) (H2 : Hp), aRgL x y H2 Q = ∃ i j, x = .int i ∧ y = .int j ∧ RgOk i j ∧ ∀ q, H2 q = none → Q (.ref q) (upd H2 q (.lst (rgV i j))) := fun _ _ _ => rfl
  exact k
theorem w_rgL (h : RgOk i j) (k : ∀ q, H q = none → Q (.ref q) (upd H q (.lst ((rgI i j).map V.int)))) : aRgL (.int i) (.int j) H Q := ⟨i, j, rfl, rfl, h, fun q hq => by rw [rgV_int]; exact k q hq⟩
theorem w_addL1 (hp : H p = some (.lst [.int i])) (hq : H q = some (.lst (us.map V.int))) (hl : 1 + us.length ≤ sizeLine) (k : ∀ r, H r = none → Q (.ref r) (upd H r (.lst ((i :: us).map V.int)))) : aAdd (.ref p) (.ref q) H Q :=
  w_addLM (us := [i]) (vs := us) (f := V.int) hp hq hl k
theorem w_addR1 (hp : H p = some (.lst (us.map V.int))) (hq : H q = some (.lst [.int i])) (hl : us.length + 1 ≤ sizeLine) (k : ∀ r, H r = none → Q (.ref r) (upd H r (.lst ((us ++ [i]).map V.int)))) : aAdd (.ref p) (.ref q) H Q :=
  w_addLM (us := us) (vs := [i]) (f := V.int) hp hq hl k
end
theorem log2_small {i : Int} (h : -1000000000000 ≤ i ∧ i ≤ 1000000000000) : i.natAbs.log2 < 1920 := by
  have h1 : i.natAbs < 2 ^ 40 := by omega
  by_cases z : i.natAbs = 0
  · rw [z]; decide
  · have := (Nat.log2_lt z).mpr h1
    omega
end Lk
namespace Lk
open PySem PySem.Spec PyProof.Rows L2 TL

/-! ### words that are numbers -/
def strI (i : Int) : Str := Str.ofString (toString i)
def isNumW (z : Str) : Bool := (Txt.isascii z && Txt.isdigit z) && (decide (z = "0") || (!decide ((⟨#[z.cps.toList.getD 0 default]⟩ : Str) = "0") && decide ((z.length : Int) ≤ 9)))
def numV (z : Str) : Int := (intText? z).getD 0
theorem ascii_digit : ∀ c < 128, Unicode.isDigit c = true → 48 ≤ c ∧ c ≤ 57 := by decide +kernel
theorem digit_ascii : ∀ c < 58, 48 ≤ c → Unicode.isDigit c = true := by decide +kernel
theorem num_digits {z : Str} (h1 : Txt.isascii z = true) (h2 : Txt.isdigit z = true) : NumText.AllDigits (tl z) ∧ tl z ≠ [] := by
  unfold Txt.isascii at h1
  unfold Txt.isdigit at h2
  rw [Bool.and_eq_true] at h2
  obtain ⟨h2, h3⟩ := h2
  refine ⟨fun c hc => ?_, fun e => ?_⟩
  · have m : c ∈ z.cps := Array.mem_toList_iff.mp hc
    have a := (Array.all_eq_true_iff_forall_mem.mp h1) c m
    have b := (Array.all_eq_true_iff_forall_mem.mp h3) c m
    exact ascii_digit c (by simpa using a) b
  · have : z.length = 0 := by rw [len_tl, e]; rfl
    rw [this] at h2
    simp at h2
theorem isNumW_parts {z : Str} (h : isNumW z = true) : Txt.isascii z = true ∧ Txt.isdigit z = true ∧ z.length ≤ 9 := by
  unfold isNumW at h
  rw [Bool.and_eq_true, Bool.and_eq_true] at h
  obtain ⟨⟨h1, h2⟩, h3⟩ := h
  refine ⟨h1, h2, ?_⟩
  rw [Bool.or_eq_true] at h3
  rcases h3 with h3 | h3
  · have : z = "0" := by simpa using h3
    rw [this]; decide
  · rw [Bool.and_eq_true] at h3
    have := h3.2
    simp at this
    omega
theorem num_text {z : Str} (h : isNumW z = true) : intText? z = some (numV z) ∧ 0 ≤ numV z ∧ z.length ≤ 640 := by
  obtain ⟨h1, h2, h3⟩ := isNumW_parts h
  obtain ⟨d, ne⟩ := num_digits h1 h2
  have e := PySem.intText_digits (x := z) d ne (by omega)
  unfold numV
  rw [e]
  refine ⟨rfl, ?_, by omega⟩
  show 0 ≤ ((NumText.digitsVal z.cps.toList : Nat) : Int)
  omega
/-! ### splits are not long -/
theorem spl_len (S : List Nat) : ∀ (l : List Nat) (k : Nat) (acc : List Nat), (spl S k acc l).length ≤ l.length + 1
  | [], k, acc => by rw [spl_nil]; simp
  | c :: r, 0, acc => by
    have h1 := spl_len S r (S.length - 1) []
    have h2 := spl_len S r 0 (acc ++ [c])
    cases h : pre S (c :: r) with
    | true => rw [spl_hit h]; simp; omega
    | false => rw [spl_miss h]; simp; omega
  | c :: r, k + 1, acc => by
    have h1 := spl_len S r k acc
    show (spl S k acc r).length ≤ _
    simp; omega
theorem spl_part_len (S : List Nat) : ∀ (l : List Nat) (k : Nat) (acc : List Nat), ∀ p ∈ spl S k acc l, p.length ≤ acc.length + l.length
  | [], k, acc => by rw [spl_nil]; simp
  | c :: r, 0, acc => by
    intro p hp
    cases h : pre S (c :: r) with
    | true =>
      rw [spl_hit h] at hp
      rcases List.mem_cons.mp hp with z | z
      · rw [z]; simp
      · have := spl_part_len S r (S.length - 1) [] p z
        simp at this ⊢; omega
    | false =>
      rw [spl_miss h] at hp
      have := spl_part_len S r 0 (acc ++ [c]) p hp
      simp at this ⊢; omega
  | c :: r, k + 1, acc => by
    intro p hp
    have := spl_part_len S r k acc p hp
    simp at this ⊢; omega
theorem spl_ne (S : List Nat) : ∀ (l : List Nat) (k : Nat) (acc : List Nat), spl S k acc l ≠ []
  | [], k, acc => by rw [spl_nil]; simp
  | c :: r, 0, acc => by
    cases h : pre S (c :: r) with
    | true => rw [spl_hit h]; simp
    | false => rw [spl_miss h]; exact spl_ne S r 0 _
  | c :: r, k + 1, acc => spl_ne S r k acc
section
variable {z y : Str}
theorem split_len (hy : tl y ≠ []) (hk : y.cps.all (· < 256) = true) : (Txt.split z y).length ≤ z.length + 1 := by
  have e := split_spl z y hy (kind_ok hk)
  have := spl_len (tl y) (tl z) 0 []
  rw [← e, List.length_map] at this
  rw [len_tl]; exact this
theorem split_part_len (hy : tl y ≠ []) (hk : y.cps.all (· < 256) = true) : ∀ p ∈ Txt.split z y, p.length ≤ z.length := by
  intro p hp
  have e := split_spl z y hy (kind_ok hk)
  have := spl_part_len (tl y) (tl z) 0 [] (tl p) (by rw [← e]; exact List.mem_map_of_mem hp)
  rw [len_tl, len_tl]
  simpa using this
theorem split_ne (hy : tl y ≠ []) (hk : y.cps.all (· < 256) = true) : Txt.split z y ≠ [] := by
  intro h
  have e := split_spl z y hy (kind_ok hk)
  rw [h] at e
  exact spl_ne _ _ _ _ e.symm
end
theorem tl_sp : tl " " = [32] := by decide +kernel
theorem tl_bar : tl " | " = [32, 124, 32] := by decide +kernel
theorem k_sp : (" " : Str).cps.all (· < 256) = true := by decide +kernel
theorem k_bar : (" | " : Str).cps.all (· < 256) = true := by decide +kernel
/-- the numbers of a part, if it is one -/
def numsOf (z : Str) : Option (List Int) := if (Txt.split z " ").all isNumW = true then some ((Txt.split z " ").map numV) else none
theorem numsOf_len {z : Str} {us : List Int} (h : numsOf z = some us) : 1 ≤ us.length ∧ us.length ≤ z.length + 1 ∧ ∀ u ∈ us, 0 ≤ u := by
  unfold numsOf at h
  split at h
  · rename_i q
    cases h
    rw [List.length_map]
    refine ⟨?_, split_len (by rw [tl_sp]; simp) k_sp, fun u hu => ?_⟩
    · have := split_ne (z := z) (y := " ") (by rw [tl_sp]; simp) k_sp
      cases e : Txt.split z " " with
      | nil => exact absurd e this
      | cons a l => simp
    · obtain ⟨w, hw, rfl⟩ := List.mem_map.mp hu
      exact (num_text (List.all_eq_true.mp q w hw)).2.1
  · cases h
/-! ### texts of numbers -/
theorem tl_strI {i : Int} (h : 0 ≤ i) : tl (strI i) = numL i.toNat := by
  have e := tl_num i.toNat
  rw [show ((i.toNat : Nat) : Int) = i by omega] at e
  exact e
theorem strI_len {i : Int} (h : 0 ≤ i) (h2 : i < 1000000000) : (strI i).length ≤ 9 := by
  rw [len_tl, tl_strI h]
  exact numL_len (by decide) (by omega)
theorem numL_head : ∀ (m n : Nat), n ≤ m → 0 < n → ∃ c r, numL n = c :: r ∧ c ≠ 48 := by
  intro m
  induction m with
  | zero => intro n h1 h2; omega
  | succ m ih =>
    intro n h1 h2
    by_cases h : n < 10
    · exact ⟨48 + n, [], numL_lt h, by omega⟩
    · obtain ⟨c, r, e, hc⟩ := ih (n / 10) (by omega) (by omega)
      exact ⟨c, r ++ [48 + n % 10], by rw [numL_step (by omega), e]; rfl, hc⟩
theorem isNum_strI {i : Int} (h : 0 ≤ i) (h2 : i < 1000000000) : isNumW (strI i) = true := by
  have et := tl_strI h
  have hl := strI_len h h2
  have hd := numL_digits i.toNat
  unfold isNumW
  rw [Bool.and_eq_true, Bool.and_eq_true]
  have hmem : ∀ c ∈ (strI i).cps, 48 ≤ c ∧ c ≤ 57 := fun c hc => hd c (by rw [← et]; exact Array.mem_toList_iff.mpr hc)
  have hne : 0 < (strI i).length := by
    rw [len_tl, et]
    exact List.length_pos_iff.mpr (numL_ne _)
  refine ⟨⟨?_, ?_⟩, ?_⟩
  · unfold Txt.isascii
    rw [Array.all_eq_true_iff_forall_mem]
    intro c hc
    have := hmem c hc
    simp; omega
  · unfold Txt.isdigit
    rw [Bool.and_eq_true]
    refine ⟨by simpa using hne, ?_⟩
    rw [Array.all_eq_true_iff_forall_mem]
    intro c hc
    have := hmem c hc
    exact digit_ascii c (by omega) this.1
  · rw [Bool.or_eq_true]
    by_cases z : i = 0
    · left
      subst z
      decide +kernel
    · right
      rw [Bool.and_eq_true]
      obtain ⟨c, r, e, hc⟩ := numL_head i.toNat i.toNat (Nat.le_refl _) (by omega)
      refine ⟨?_, by simp; omega⟩
      have e2 : (strI i).cps.toList = c :: r := by
        show tl (strI i) = _
        rw [et, e]
      rw [e2]
      simp only [List.getD_cons_zero]
      rw [Bool.not_eq_true', decide_eq_false_iff_not]
      intro q
      have q2 := congrArg tl q
      have q3 : tl ("0" : Str) = [48] := by decide +kernel
      rw [q3] at q2
      have q4 : tl (⟨#[c]⟩ : Str) = [c] := rfl
      rw [q4] at q2
      injection q2 with q5
      exact hc q5
theorem numV_strI {i : Int} (h : 0 ≤ i) (h2 : i < 1000000000) : numV (strI i) = i := by
  have e := int_num (n := i.toNat) (Nat.le_trans (numL_len (k := 9) (by decide) (by omega)) (by decide))
  rw [show ((i.toNat : Nat) : Int) = i by omega] at e
  unfold numV strI
  rw [e]; rfl
theorem no_sign {i : Int} {s : Nat} (h : 0 ≤ i) (hs : s < 48 ∨ 57 < s) : s ∉ tl (strI i) := by
  rw [tl_strI h]
  exact numL_free hs
theorem split_nums {us : List Int} (hne : us ≠ []) (h : ∀ u ∈ us, 0 ≤ u) : Txt.split (Txt.join " " (us.map strI)) " " = us.map strI := by
  refine split_join (s := 32) (S := []) tl_sp k_sp (by simpa using hne) fun p hp => ?_
  obtain ⟨u, hu, rfl⟩ := List.mem_map.mp hp
  exact no_sign (h u hu) (by omega)
theorem numsOf_join {us : List Int} (hne : us ≠ []) (h : ∀ u ∈ us, 0 ≤ u ∧ u < 1000000000) : numsOf (Txt.join " " (us.map strI)) = some us := by
  unfold numsOf
  rw [split_nums hne (fun u hu => (h u hu).1)]
  have q : (us.map strI).all isNumW = true := by
    rw [List.all_eq_true]
    intro w hw
    obtain ⟨u, hu, rfl⟩ := List.mem_map.mp hw
    exact isNum_strI (h u hu).1 (h u hu).2
  rw [if_pos q, List.map_map]
  congr 1
  conv => rhs; rw [← List.map_id us]
  apply List.map_congr_left
  intro u hu
  exact numV_strI (h u hu).1 (h u hu).2
/-- a bar is in no text of numbers -/
theorem joinL_free {s : Nat} {S : List Nat} (hS : s ∉ S) : ∀ {ps : List (List Nat)}, (∀ p ∈ ps, s ∉ p) → s ∉ joinL S ps
  | [], _ => List.not_mem_nil
  | [p], h => h p (List.mem_singleton.mpr rfl)
  | p :: q :: r, h => by
    show s ∉ p ++ (S ++ joinL S (q :: r))
    intro z
    rcases List.mem_append.mp z with z | z
    · exact h p List.mem_cons_self z
    · rcases List.mem_append.mp z with z | z
      · exact hS z
      · exact joinL_free hS (fun x hx => h x (List.mem_cons_of_mem _ hx)) z
theorem no_bar {us : List Int} (h : ∀ u ∈ us, 0 ≤ u) : 124 ∉ tl (Txt.join " " (us.map strI)) := by
  rw [join_eq, tl_join, tl_sp]
  refine joinL_free (by decide) fun p hp => ?_
  obtain ⟨w, hw, rfl⟩ := List.mem_map.mp hp
  obtain ⟨u, hu, rfl⟩ := List.mem_map.mp hw
  exact no_sign (h u hu) (by omega)
theorem pre_bar {p q : List Nat} (h : 124 ∉ p) (hq : ∀ c, q[0]? = some c → c ≠ 124) : ∀ i, i < p.length → pre [32, 124, 32] ((p ++ q).drop i) = false := by
  intro i hi
  cases e : pre [32, 124, 32] ((p ++ q).drop i) with
  | false => rfl
  | true =>
    exfalso
    unfold pre at e
    have e2 : ((p ++ q).drop i).take 3 = [32, 124, 32] := by simpa using e
    have e3 : ((p ++ q).drop i)[1]? = some 124 := by
      have : (((p ++ q).drop i).take 3)[1]? = some 124 := by rw [e2]; rfl
      rw [List.getElem?_take_of_lt (by omega)] at this
      exact this
    rw [List.getElem?_drop] at e3
    by_cases z : i + 1 < p.length
    · rw [List.getElem?_append_left z] at e3
      exact h (List.mem_of_getElem? e3)
    · rw [List.getElem?_append_right (by omega), show i + 1 - p.length = 0 by omega] at e3
      exact hq 124 e3 rfl
theorem spl_bar {p rest acc : List Nat} (h : 124 ∉ p) : spl [32, 124, 32] 0 acc (p ++ ([32, 124, 32] ++ rest)) = (acc ++ p) :: spl [32, 124, 32] 0 [] rest :=
  spl_part (by simp) (pre_bar h (fun c e => by simp at e; omega))
theorem spl_bar_last {p acc : List Nat} (h : 124 ∉ p) : spl [32, 124, 32] 0 acc p = [acc ++ p] := spl_last fun i hi => by
  have := pre_bar (q := []) h (fun c e => by simp at e) i hi
  rwa [List.append_nil] at this
theorem split_three {a b c : Str} (ha : 124 ∉ tl a) (hb : 124 ∉ tl b) (hc : 124 ∉ tl c) : Txt.split (a ++ " | " ++ b ++ " | " ++ c) " | " = [a, b, c] := by
  refine map_tl_inj ?_
  rw [split_spl _ _ (by rw [tl_bar]; simp) (kind_ok k_bar), tl_append, tl_append, tl_append, tl_append, tl_bar]
  rw [List.append_assoc, List.append_assoc, List.append_assoc, spl_bar ha, spl_bar hb, spl_bar_last hc]
  rfl
theorem join_three (a b c : Str) : Txt.join " | " [a, b, c] = a ++ " | " ++ b ++ " | " ++ c := by
  refine ext_tl ?_
  rw [join_eq, tl_join, tl_append, tl_append, tl_append, tl_append]
  show tl a ++ (tl " | " ++ (tl b ++ (tl " | " ++ tl c))) = _
  simp only [List.append_assoc]
theorem sum_len {ys : List Str} {c : Nat} (h : ∀ y ∈ ys, y.length ≤ c) : (ys.map (·.length)).sum ≤ ys.length * c := by
  induction ys with
  | nil => simp
  | cons y ys ih =>
    have h1 := h y List.mem_cons_self
    have h2 := ih (fun z hz => h z (List.mem_cons_of_mem _ hz))
    rw [List.map_cons, List.sum_cons, List.length_cons, Nat.succ_mul]
    omega
theorem joinL_len (S : List Nat) : ∀ ps : List (List Nat), (joinL S ps).length ≤ (ps.map (·.length)).sum + ps.length * S.length
  | [] => by simp [joinL]
  | [p] => by simp [joinL]
  | p :: q :: r => by
    have := joinL_len S (q :: r)
    show (p ++ (S ++ joinL S (q :: r))).length ≤ _
    simp only [List.length_append, List.map_cons, List.sum_cons, List.length_cons] at this ⊢
    rw [Nat.succ_mul]
    omega
theorem join_len {ys : List Str} {c : Nat} (h : ∀ y ∈ ys, y.length ≤ c) : (Txt.join " " ys).length ≤ ys.length * (c + 1) := by
  rw [len_tl, join_eq, tl_join, tl_sp]
  have h1 := joinL_len [32] (ys.map tl)
  have h2 := sum_len h
  have e : ((ys.map tl).map (·.length)) = ys.map (·.length) := by
    rw [List.map_map]
    apply List.map_congr_left
    intro y _
    show (tl y).length = y.length
    rw [len_tl]
  rw [e, List.length_map] at h1
  rw [Nat.mul_add]
  simp at h1 ⊢
  omega
theorem nums_len {us : List Int} (h : ∀ u ∈ us, 0 ≤ u ∧ u < 1000000000) : (Txt.join " " (us.map strI)).length ≤ us.length * 10 ∧ ((us.map strI).map (·.length)).sum ≤ us.length * 9 := by
  have q : ∀ y ∈ us.map strI, y.length ≤ 9 := by
    intro y hy
    obtain ⟨u, hu, rfl⟩ := List.mem_map.mp hy
    exact strI_len (h u hu).1 (h u hu).2
  have h1 := join_len q
  have h2 := sum_len q
  rw [List.length_map] at h1 h2
  exact ⟨h1, h2⟩
theorem len_app (a b : Str) : (a ++ b).length = a.length + b.length := by
  rw [len_tl, tl_append, List.length_append, ← len_tl, ← len_tl]
/-! ### lists of tuples -/
/-- xs holds, one by one, tuples of the rows vss -/
inductive Tps (H : Hp) : List V → List (List V) → Prop
  | nil : Tps H [] []
  | cons {r xs vs vss} : H r = some (.tup vs) → Tps H xs vss → Tps H (.ref r :: xs) (vs :: vss)
theorem Tps.kp {H H' : Hp} {xs : List V} {ps : List (List V)} (h : Tps H xs ps) (k : ∀ a o, (∃ vs, o = HO.tup vs) → H a = some o → H' a = some o) : Tps H' xs ps := by
  induction h with
  | nil => exact .nil
  | cons h1 _ ih => exact .cons (k _ _ ⟨_, rfl⟩ h1) ih
theorem Tps.len {H : Hp} {xs : List V} {ps : List (List V)} (h : Tps H xs ps) : xs.length = ps.length := by
  induction h with
  | nil => rfl
  | cons _ _ ih => simp [ih]
theorem Tps.snoc {H : Hp} {xs : List V} {ps : List (List V)} {r : Addr} {vs : List V} (h : Tps H xs ps) (e : H r = some (.tup vs)) : Tps H (xs ++ [.ref r]) (ps ++ [vs]) := by
  induction h with
  | nil => exact .cons e .nil
  | cons h1 _ ih => exact .cons h1 ih
theorem Tps.get {H : Hp} {xs : List V} {ps : List (List V)} (h : Tps H xs ps) : ∀ {k : Nat} {p : List V}, ps[k]? = some p → ∃ r, xs[k]? = some (.ref r) ∧ H r = some (.tup p) := by
  induction h with
  | nil => intro k p e; simp at e
  | cons h1 _ ih =>
    intro k p e
    cases k with
    | zero => simp at e; subst e; exact ⟨_, rfl, h1⟩
    | succ k => simpa using ih (by simpa using e)
theorem Tps.getX {H : Hp} {xs : List V} {ps : List (List V)} (h : Tps H xs ps) {k : Nat} {x : V} (e : xs[k]? = some x) : ∃ r p, x = .ref r ∧ ps[k]? = some p ∧ H r = some (.tup p) := by
  have hl : k < ps.length := by rw [← h.len]; exact (List.getElem?_eq_some_iff.mp e).1
  obtain ⟨r, h1, h2⟩ := h.get (List.getElem?_eq_getElem hl)
  rw [e] at h1
  cases h1
  exact ⟨r, _, rfl, List.getElem?_eq_getElem hl, h2⟩
theorem Tps.new {H : Hp} {xs : List V} {ps : List (List V)} {p : Addr} {o : HO} (h : Tps H xs ps) (hp : H p = none) : Tps (upd H p o) xs ps := h.kp fun a u _ e => by rw [upd_ne (ne_of_none e hp)]; exact e
/-- a list is changed -/
theorem Tps.mut {H : Hp} {xs ys : List V} {ps : List (List V)} {p : Addr} {o : HO} (h : Tps H xs ps) (hp : H p = some (.lst ys)) : Tps (upd H p o) xs ps := h.kp fun a u z e => by
  obtain ⟨vs, rfl⟩ := z
  rw [upd_ne (ne_of e hp (by intro q; cases q))]; exact e
theorem Tps.kp0 {H H' : Hp} {xs : List V} {ps : List (List V)} (h : Tps H xs ps) (k : Kp [] H H') : Tps H' xs ps := h.kp fun a o _ e => k a o e List.not_mem_nil
/-- lists, at most, are changed -/
theorem Tps.kpm {ms : List Addr} {H H' : Hp} {xs : List V} {ps : List (List V)} (h : Tps H xs ps) (k : Kp ms H H') (hm : ∀ m ∈ ms, ∃ ys, H m = some (.lst ys)) : Tps H' xs ps := h.kp fun a o z e => k a o e fun hz => by
  obtain ⟨vs, rfl⟩ := z
  obtain ⟨ys, e2⟩ := hm a hz
  rw [e] at e2; cases e2
/-! ### equal tuples -/
/-- flat rows as data -/
def datV : V → PyData
  | .int i => .int i
  | .str x => .str x
  | .bl b => .bool b
  | _ => .none
def flatRow (vs : List V) : Bool := vs.all fun v => match v with
  | .int _ => true
  | .str _ => true
  | .bl _ => true
  | .non => true
  | _ => false
theorem dpRow {K : PySem.W.Frag} {H : Hp} : ∀ {vs : List V}, flatRow vs = true → DpAll K H vs (vs.map datV)
  | [], _ => .nil
  | v :: vs, h => by
    unfold flatRow at h
    rw [List.all_cons, Bool.and_eq_true] at h
    refine .cons ?_ (dpRow h.2)
    cases v with
    | int i => exact .int i
    | str x => exact .str x
    | bl b => exact .bl b
    | non => exact .non
    | byt b => exact absurd h.1 Bool.false_ne_true
    | flt b => exact absurd h.1 Bool.false_ne_true
    | ref a => exact absurd h.1 Bool.false_ne_true
    | ty n => exact absurd h.1 Bool.false_ne_true
theorem eqRow : ∀ vs : List V, PyData.eqvAll (vs.map datV) (vs.map datV) = true
  | [] => rfl
  | v :: vs => by
    rw [List.map_cons, PyData.eqvAll, eqRow vs, Bool.and_true]
    cases v <;> simp [datV, PyData.eqv]
theorem sh_row {ds : List PyData} (h : ds.all (fun d => d.canLay0 && decide (d.depth ≤ 1)) = true) : SeqAt.shaped (.tuple ds) = true := by
  have a : ∀ ds : List PyData, ds.all (fun d => d.canLay0 && decide (d.depth ≤ 1)) = true → PyData.canLayAll0 ds = true ∧ PyData.depthAll ds ≤ 1 := by
    intro ds
    induction ds with
    | nil => intro _; exact ⟨by simp [PyData.canLayAll0], by simp [PyData.depthAll]⟩
    | cons d ds ih =>
      intro h
      simp only [List.all_cons, Bool.and_eq_true, decide_eq_true_eq] at h
      have := ih (by simpa using h.2)
      refine ⟨by simp [PyData.canLayAll0, h.1.1, this.1], by simp [PyData.depthAll]; omega⟩
  have := a ds h
  unfold SeqAt.shaped
  simp [PyData.canLay0, PyData.depth, this.1]
  omega
def okV : V → Bool
  | .int _ => true
  | .str x => PyData.strOk x
  | .bl _ => true
  | .non => true
  | _ => false
theorem shaped_row {vs : List V} (h : vs.all okV = true) : SeqAt.shaped (.tuple (vs.map datV)) = true := by
  refine sh_row ?_
  rw [List.all_map]
  rw [List.all_eq_true] at h ⊢
  intro v hv
  have := h v hv
  cases v <;> simp_all [okV, datV, PyData.canLay0, PyData.depth]
theorem flat_row {vs : List V} (h : vs.all okV = true) : flatRow vs = true := by
  unfold flatRow
  rw [List.all_eq_true] at h ⊢
  intro v hv
  have := h v hv
  cases v <;> simp_all [okV]
section
variable {K : PySem.W.Frag} {H : Hp} {Q : VK} {p q : Addr} {vs : List V}
theorem w_neT (hp : H p = some (.tup vs)) (hq : H q = some (.tup vs)) (hf : flatRow vs = true) (hs : SeqAt.shaped (.tuple (vs.map datV)) = true) (k : Q (.bl false) H) : aNe K (.ref p) (.ref q) H Q :=
  .inr ⟨_, _, .tup (.inl (.inl hp)) (dpRow hf), .tup (.inl (.inl hq)) (dpRow hf), hs, hs, by rw [PyData.eqv, eqRow]; exact k⟩
theorem w_eqT (hp : H p = some (.tup vs)) (hq : H q = some (.tup vs)) (hf : flatRow vs = true) (hs : SeqAt.shaped (.tuple (vs.map datV)) = true) (k : Q (.bl true) H) : aEq K (.ref p) (.ref q) H Q :=
  .inr ⟨_, _, .tup (.inl (.inl hp)) (dpRow hf), .tup (.inl (.inl hq)) (dpRow hf), hs, hs, by rw [PyData.eqv, eqRow]; exact k⟩
end
/-! ### from the end -/
theorem atI_neg {α : Type} {xs : List α} {i : Int} {v : α} (hi : i < 0) (hl : -i ≤ (xs.length : Int)) (h : xs[((xs.length : Int) + i).toNat]? = some v) : atI xs i = some v := by
  unfold atI ixN
  rw [if_neg (by omega), if_pos (by omega), show i + (xs.length : Int) = (xs.length : Int) + i by omega]
  exact h
theorem w_ixNeg {α : Type} [Inhabited α] {f : α → V} {us : List α} {K : PySem.W.Frag} {H : Hp} {Q : VK} {p : Addr} {i : Int} (hp : H p = some (.lst (us.map f))) (hi : i < 0) (hl : -i ≤ (us.length : Int)) (k : Q (f (us.getD ((us.length : Int) + i).toNat default)) H) : rIx K (.ref p) (.int i) H Q :=
  .inl ⟨p, _, _, _, rfl, rfl, SqL.of hp, atI_neg hi (by simpa using hl) (by
    rw [List.length_map, List.getElem?_map, List.getD_eq_getElem?_getD, List.getElem?_eq_getElem (by omega)]; rfl), k⟩
/-! ### members: texts, truth values -/
section
variable {p : Addr} {H : Hp} {Q : VK} {K : PySem.W.Frag}
theorem eqV_str (a b : Str) : eqV (.str a) (.str b) = decide (a = b) := by
  have : eqV (.str a) (.str b) = (a == b) := rfl
  rw [this]
  by_cases z : a = b <;> simp [z]
theorem eqV_bl (a b : Bool) : eqV (.bl a) (.bl b) = decide (a = b) := by cases a <;> cases b <;> rfl
theorem inV_str {x : Str} : ∀ us : List Str, inV (.str x) (us.map V.str) = decide (x ∈ us)
  | [] => by simp [inV]
  | u :: us => by
    have h := inV_str (x := x) us
    unfold inV at h ⊢
    rw [List.map_cons, List.any_cons, h, eqV_str]
    by_cases z : u = x
    · simp [z]
    · have z2 : ¬ x = u := fun q => z q.symm
      simp [z, z2]
theorem inV_bl {x : Bool} : ∀ us : List Bool, inV (.bl x) (us.map V.bl) = decide (x ∈ us)
  | [] => by simp [inV]
  | u :: us => by
    have h := inV_bl (x := x) us
    unfold inV at h ⊢
    rw [List.map_cons, List.any_cons, h, eqV_bl]
    by_cases z : u = x
    · simp [z]
    · have z2 : ¬ x = u := fun q => z q.symm
      simp [z, z2]
theorem flat_str : ∀ us : List Str, (us.map V.str).all flatV = true
  | [] => rfl
  | u :: us => by rw [List.map_cons, List.all_cons, flat_str us]; rfl
theorem flat_bl : ∀ us : List Bool, (us.map V.bl).all flatV = true
  | [] => rfl
  | u :: us => by rw [List.map_cons, List.all_cons, flat_bl us]; rfl
theorem w_inS {x : Str} {us : List Str} (hp : H p = some (.lst (us.map V.str))) (k : Q (.bl (decide (x ∈ us))) H) : rIn K false (.str x) (.ref p) H Q :=
  ⟨p, _, rfl, .inl (SqL.of hp), rfl, flat_str us, by rw [inV_str]; exact k⟩
theorem w_notInS {x : Str} {us : List Str} (hp : H p = some (.lst (us.map V.str))) (k : Q (.bl (!decide (x ∈ us))) H) : rIn K true (.str x) (.ref p) H Q :=
  ⟨p, _, rfl, .inl (SqL.of hp), rfl, flat_str us, by rw [inV_str]; exact k⟩
theorem w_inB {x : Bool} {us : List Bool} (hp : H p = some (.lst (us.map V.bl))) (k : Q (.bl (decide (x ∈ us))) H) : rIn K false (.bl x) (.ref p) H Q :=
  ⟨p, _, rfl, .inl (SqL.of hp), rfl, flat_bl us, by rw [inV_bl]; exact k⟩
theorem w_notInB {x : Bool} {us : List Bool} (hp : H p = some (.lst (us.map V.bl))) (k : Q (.bl (!decide (x ∈ us))) H) : rIn K true (.bl x) (.ref p) H Q :=
  ⟨p, _, rfl, .inl (SqL.of hp), rfl, flat_bl us, by rw [inV_bl]; exact k⟩
end
end Lk
namespace Lk
open PySem PySem.Spec PyProof.Rows L2 TL

/-! ### is, of truth values -/
theorem vbl_beq (a b : Bool) : ((Value.bool a) == (Value.bool b)) = decide (a = b) := by
  by_cases e : a = b
  · subst e
    exact (beq_self_eq_true (Value.bool a)).trans (decide_eq_true (p := a = a) rfl).symm
  · exact (beq_eq_false_iff_ne.mpr fun z => e (Value.bool.inj z)).trans (decide_eq_false e).symm
section
variable {X : Cx}
theorem op_isBl : OpR X (compareOp .Is) (fun x y H Q => ∃ a b, x = .bl a ∧ y = .bl b ∧ Q (.bl (decide (a = b))) H) := by
  intro pins s σ H x y v u Q I rx ry h
  obtain ⟨a, b, rfl, rfl, q⟩ := h
  cases (show v = Value.bool a from rx)
  cases (show u = Value.bool b from ry)
  exact wpAny_is_plain rfl (fin_bl I q (vbl_beq a b).symm)
theorem op_notBl : OpR X (compareOp .IsNot) (fun x y H Q => ∃ a b, x = .bl a ∧ y = .bl b ∧ Q (.bl (!decide (a = b))) H) := by
  intro pins s σ H x y v u Q I rx ry h
  obtain ⟨a, b, rfl, rfl, q⟩ := h
  cases (show v = Value.bool a from rx)
  cases (show u = Value.bool b from ry)
  exact wpAny_isNot_plain rfl (fin_bl I q (congrArg not (vbl_beq a b).symm))
end
def aIsB : R2 := fun x y H Q => ∃ a b, x = .bl a ∧ y = .bl b ∧ Q (.bl (decide (a = b))) H
def aNotB : R2 := fun x y H Q => ∃ a b, x = .bl a ∧ y = .bl b ∧ Q (.bl (!decide (a = b))) H
theorem o_isB {X : Cx} : OpR X (compareOp .Is) aIsB := op_isBl
theorem o_notB {X : Cx} : OpR X (compareOp .IsNot) aNotB := op_notBl
theorem w_isB {a b : Bool} {H : Hp} {Q : VK} (k : Q (.bl (decide (a = b))) H) : aIsB (.bl a) (.bl b) H Q := ⟨a, b, rfl, rfl, k⟩
theorem w_notB {a b : Bool} {H : Hp} {Q : VK} (k : Q (.bl (!decide (a = b))) H) : aNotB (.bl a) (.bl b) H Q := ⟨a, b, rfl, rfl, k⟩
/-! ### tuple(list) -/
def rTupOf (K : PySem.W.Frag) : List V → Hp → VK → Prop := fun xs H Q => ∃ p ys, xs = [.ref p] ∧ ((SqL K H p ys ∧ ∀ l, H l = none → Q (.ref l) (upd H l (.tup ys))) ∨ (SqT K H p ys ∧ Q (.ref p) H))
theorem b_tuple {X : Cx} : CallR X (.type "tuple") (rTupOf X.K) := call_tuple_of
theorem w_tupOf {K : PySem.W.Frag} {H : Hp} {p : Addr} {ys : List V} {Q : VK} (hp : H p = some (.lst ys)) (k : ∀ l, H l = none → Q (.ref l) (upd H l (.tup ys))) : rTupOf K [.ref p] H Q := ⟨p, ys, rfl, .inl ⟨SqL.of hp, k⟩⟩
/-! ### isinstance(o, C) of an own class -/
def rIsC (C : Addr) : List V → Hp → VK → Prop := fun xs H Q => ∃ a dx fs, xs = [.ref a, .ref C] ∧ H a = some (.ins C dx fs) ∧ Q (.bl true) H
theorem b_isC {X : Cx} {C : Addr} (c : C8.InsC X.K C) : CallR X (.builtin "isinstance") (rIsC C) := C8.call_isC c
theorem w_isC {C a dx : Addr} {fs : List (Str × V)} {H : Hp} {Q : VK} (hp : H a = some (.ins C dx fs)) (k : Q (.bl true) H) : rIsC C [.ref a, .ref C] H Q := ⟨a, dx, fs, rfl, hp, k⟩
/-! ### values as data -/
section
variable {K : PySem.W.Frag} {H : Hp} {n m : Nat}
def DV (K : PySem.W.Frag) (H : Hp) (n : Nat) (v : V) (d : PyData) : Prop := Dp K H v d ∧ d.canLay0 = true ∧ d.depth ≤ n
def DvAll (K : PySem.W.Frag) (H : Hp) (n : Nat) (vs : List V) (ds : List PyData) : Prop := DpAll K H vs ds ∧ PyData.canLayAll0 ds = true ∧ PyData.depthAll ds ≤ n
theorem DV.int (i : Int) : DV K H n (.int i) (.int i) := ⟨.int i, by simp [PyData.canLay0], by simp [PyData.depth]⟩
theorem DV.bl (b : Bool) : DV K H n (.bl b) (.bool b) := ⟨.bl b, by simp [PyData.canLay0], by simp [PyData.depth]⟩
theorem DV.str {x : Str} (h : PyData.strOk x = true) : DV K H n (.str x) (.str x) := ⟨.str x, by simp [PyData.canLay0, h], by simp [PyData.depth]⟩
theorem DV.non : DV K H n .non .none := ⟨.non, by simp [PyData.canLay0], by simp [PyData.depth]⟩
theorem DvAll.nil : DvAll K H n [] [] := ⟨.nil, by simp [PyData.canLayAll0], by simp [PyData.depthAll]⟩
theorem DvAll.cons {v : V} {vs : List V} {d : PyData} {ds : List PyData} (h1 : DV K H n v d) (h2 : DvAll K H n vs ds) : DvAll K H n (v :: vs) (d :: ds) :=
  ⟨.cons h1.1 h2.1, by simp [PyData.canLayAll0, h1.2.1, h2.2.1], by have := h1.2.2; have := h2.2.2; simp [PyData.depthAll]; omega⟩
theorem DV.tup {p : Addr} {vs : List V} {ds : List PyData} (hp : H p = some (.tup vs)) (h : DvAll K H n vs ds) : DV K H (n + 1) (.ref p) (.tuple ds) :=
  ⟨.tup (.inl (.inl hp)) h.1, by simp [PyData.canLay0, h.2.1], by have := h.2.2; simp [PyData.depth]; omega⟩
theorem DV.lst {p : Addr} {vs : List V} {ds : List PyData} (hp : H p = some (.lst vs)) (h : DvAll K H n vs ds) : DV K H (n + 1) (.ref p) (.list ds) :=
  ⟨.lst (SqL.of hp) h.1, by simp [PyData.canLay0, h.2.1], by have := h.2.2; simp [PyData.depth]; omega⟩
theorem DvAll.row : ∀ {vs : List V}, vs.all okV = true → DvAll K H n vs (vs.map datV)
  | [], _ => .nil
  | v :: vs, h => by
    rw [List.all_cons, Bool.and_eq_true] at h
    refine .cons ?_ (DvAll.row h.2)
    cases v with
    | int i => exact .int i
    | str x => exact .str h.1
    | bl b => exact .bl b
    | non => exact .non
    | byt b => exact absurd h.1 Bool.false_ne_true
    | flt b => exact absurd h.1 Bool.false_ne_true
    | ref a => exact absurd h.1 Bool.false_ne_true
    | ty n => exact absurd h.1 Bool.false_ne_true
theorem DV.shaped {v : V} {d : PyData} (h : DV K H n v d) (hn : n ≤ 64) : SeqAt.shaped d = true := by
  unfold SeqAt.shaped
  rw [h.2.1, Bool.true_and]
  exact decide_eq_true (Nat.le_trans h.2.2 hn)
theorem w_eqV {x y : V} {d e : PyData} {Q : VK} (h1 : DV K H 10 x d) (h2 : DV K H 10 y e) (k : Q (.bl (PyData.eqv d e)) H) : aEq K x y H Q :=
  .inr ⟨d, e, h1.1, h2.1, h1.shaped (by decide), h2.shaped (by decide), k⟩
end
/-! ### a comprehension over a list whose turns make things -/
section
variable {σ : St} {H : Hp} {g : TG} {tt : TT} {te : TE} {K : PySem.W.Frag} {vs : List Nat} {Q : VK} {α : Type} {f : α → V}
theorem w_lcMG {us : List α} {p : Addr} (J : Addr → Nat → List V → Hp → Prop) (hp : H p = some (.lst (us.map f)))
    (h0 : ∀ D, H D = none → J D 0 [] (upd H D (.lst [])))
    (hs : ∀ (D : Addr) (i : Nat) (u : α) (acc : List V) (H' : Hp), H D = none → us[i]? = some u → acc.length ≤ i → Kp [] H H' → H' D = some (.lst acc) → J D i acc H' → g (f u) (wipe σ vs) H' fun σ2 H2 => wipe σ2 vs = wipe σ vs ∧ tt σ2 H2 fun b H3 =>
      if b = true then te σ2 H3 (gKeep [] H D (J D) (i + 1)) else gNx [] H D (J D) (i + 1) H3)
    (k : ∀ D acc H', H D = none → acc.length ≤ us.length → Kp [] H H' → H' D = some (.lst acc) → J D us.length acc H' → Q (.ref D) H') : aCList K g tt te vs σ Q (.ref p) H :=
  ⟨p, rfl, ⟨_, SqL.of hp⟩, fun D hD => lc_list (K := K) (a := p) (xs := us.map f) (fun i => gNx [] H D (J D) i) ⟨[], Nat.zero_le _, Kp.refl.new hD, upd_same, h0 D hD⟩
    (fun i H' hi q => by
      obtain ⟨acc, _, q2, _⟩ := q
      exact SqL.of (q2.at0 hp)) (fun i x H' hx q => by
      rw [List.getElem?_map] at hx
      cases e : us[i]? with
      | none => rw [e] at hx; cases hx
      | some u =>
        rw [e] at hx
        cases hx
        obtain ⟨acc, q1, q2, q3, q4⟩ := q
        exact hs D i u acc H' hD e q1 q2 q3 q4) (fun H' q => by
      obtain ⟨acc, q1, q2, q3, q4⟩ := q
      rw [List.length_map] at q1 q4
      exact k D acc H' hD q1 q2 q3 q4)⟩
end
/-! ### unlike data -/
theorem eqvAll_len : ∀ {ds es : List PyData}, ds.length ≠ es.length → PyData.eqvAll ds es = false
  | [], [], h => absurd rfl h
  | [], e :: es, _ => by simp [PyData.eqvAll]
  | d :: ds, [], _ => by simp [PyData.eqvAll]
  | d :: ds, e :: es, h => by
    have := eqvAll_len (ds := ds) (es := es) (by simpa using h)
    simp [PyData.eqvAll, this]
theorem strI_ok {i : Int} (h : -1 ≤ i) : PyData.strOk (strI i) = true := by
  by_cases z : i = -1
  · subst z; decide +kernel
  · have hd := numL_digits i.toNat
    unfold PyData.strOk
    rw [Array.all_eq_true_iff_forall_mem]
    intro c hc
    have := hd c (by rw [← tl_strI (show 0 ≤ i by omega)]; exact Array.mem_toList_iff.mpr hc)
    simp; omega
/-! ### sums, all -/
section
variable {K : PySem.W.Frag} {H : Hp} {Q : VK} {p : Addr}
theorem w_sum {ns : List Int} (hp : H p = some (.lst (ns.map V.int))) (k : Q (.int ns.sum) H) : rSum K [.ref p] H Q := ⟨p, ns, rfl, SqL.of hp, k⟩
theorem w_all {bs : List Bool} (hp : H p = some (.lst (bs.map V.bl))) (k : Q (.bl (bs.all id)) H) : rAll K [.ref p] H Q := ⟨p, bs, rfl, SqL.of hp, k⟩
end
theorem w_inIT {i : Int} {us : List Int} {p : Addr} {H : Hp} {Q : VK} {K : PySem.W.Frag} (hp : H p = some (.tup (us.map V.int))) (k : Q (.bl (decide (i ∈ us))) H) : rIn K false (.int i) (.ref p) H Q :=
  ⟨p, _, rfl, .inr (.inl (.inl hp)), rfl, flat_int us, by rw [inV_int]; exact k⟩
end Lk
namespace Lk
open PySem PySem.Spec PyProof.Rows L2

/-! ### methods and comprehensions while an exception is handled -/
section
variable {X : Cx} {k : Nat} {f C : Addr} {ps : List Str} {sp : Sp} {m : Str} {pos apos : Pos} {e o : Expr} {es : List Expr} {ta : TE} {t : TA}
theorem pe_methHS {pl : Sem Bool} (G : FnHA X.prog X.w X.K X.mg X.base k f ps sp) (hr : L2H.RoomH k X.A) (hc : L2H.HotC X) (c : Cls X.K C) (hm : Meth X.K C m f) (he : PE X o ta) (ha : PA X (e :: es) t)
    (hst : starEach (e :: es) X.env = (false, eval e X.env) :: starEach es X.env := by rfl) (hpl : (backTo pos (starEach es X.env)).any (·.1) = false := by rfl) (ht : MTree X pl o m (e :: es) pos apos := by rfl) :
    PE X (.Call (.Attribute o m apos) (e :: es) [] pos) (tMethS X.K C m sp (fun _ => E0) ta t) := by
  obtain ⟨fd, F, b⟩ := G
  exact L2H.pe_methH (pl := pl) he c hm F hr hc b (fun σ => L2N.passAt takes0 σ) ha hst hpl ht
theorem pe_methHS0 {pl : Sem Bool} (G : FnHA X.prog X.w X.K X.mg X.base k f ps sp) (hr : L2H.RoomH k X.A) (hc : L2H.HotC X) (c : Cls X.K C) (hm : Meth X.K C m f) (he : PE X o ta) (ht : MTree X pl o m [] pos apos := by rfl) :
    PE X (.Call (.Attribute o m apos) [] [] pos) (tMethS X.K C m sp (fun _ => E0) ta tNil) := by
  obtain ⟨fd, F, b⟩ := G
  refine ⟨fun pins s σ H Q I h => ?_⟩
  refine PySem.W.methodCall_KW (pl := pl) (thn (he.run pins s σ H _ I h) fun u s1 ⟨x, H1, I1, rx, a, dx, fs, ex, ea, l, q⟩ => ?_) ht
  subst ex
  obtain rfl : u = Value.ref a := rx
  refine getmeth_ok I1 ea c hm l ?_
  exact PySem.W.callWith_K0 (first := [.ref a]) I1.kIn hm.kp (L2H.run_fnH (E := fun _ => E0) (us := [.ref a]) (vs := [.ref a]) F hr hc b (L2N.passAt takes0 σ) I1 (.cons rfl .nil) q)
end
/-- a list's iterator comes to its end, the handled exception standing aside -/
theorem list_stop {prog : Program} {w : World} {A : Around} {E : Value → Shared → Prop} {s : Shared} {it l x1 : Addr} {i : Nat} {items : Array Value} {Q : Option Value → Shared → Prop} (hot : HotX.HotAt A x1 s.heap) (hne : x1 ≠ it) (hit : s.heap.IsListIter it l i) (hl : s.heap.IsList l items) (hx : items[i]? = none)
    (hQ : ∀ h', (∀ b o, b ≠ it → s.heap.get? b = some o → h'.get? b = some o) → Q none { s with heap := h' }) : wpAny (model prog w) A (pyNext (.ref it)) Q E s := by
  obtain ⟨oi, hoi, hci, hdi⟩ := id hit
  obtain ⟨ol, hol, _, nl, hdl⟩ := hl
  obtain ⟨hh, o1, vs1, h1, d1, c1⟩ := hot
  unfold pyNext
  refine wpAny_bind (wpAny_attempt (wpAny_callSpecial?_slot (name := Str.ofString "__next__") hit.typeIs slot_listiter_next
    (wpAny_call_entry slot_listiter_next hit.typeIs entry_listiter_next ?_ (args_listiter_next _))))
  show wpAny _ _ (field (.ref it) 0 >>= _) _ _ s
  refine wpAny_bind (wpAny_field hoi hdi (x := .ref l) rfl ?_)
  show wpAny _ _ (if (Value.ref l == Value.none) = true then _ else _) _ _ s
  rw [if_neg (show ¬ ((Value.ref l == Value.none) = true) from Bool.false_ne_true)]
  show wpAny _ _ (field (.ref it) 1 >>= _) _ _ s
  refine wpAny_bind (wpAny_field hoi hdi (x := .int i 0) rfl ?_)
  show wpAny _ _ (seqItems? (.ref l) >>= _) _ _ s
  refine wpAny_bind (wpAny_seqItems hol hdl ?_)
  simp only [Int.toNat_natCast, hx]
  refine wpAny_bind (wpAny_rule (wpAny_bind (wpAny_setField hoi hdi (by simp) ?_)))
  show wpAny _ _ (newExc (.type "StopIteration") [] >>= _) _ _ _
  refine wpAny_bind ?_
  simp only [newExc, newTuple]
  refine wpAny_bind (wpAny_newObj_type ?_ (by size_fits))
  refine wpAny_bind (m := firstArgMember _ _) (wpAny_of_eq (a := Value.none) (by first | rfl | (simp only [firstArgMember]; rfl)) ?_)
  refine wpAny_newObj_type ?_ (by size_fits)
  have q1 := (Heap.get?_update_other s.heap (Obj.mapFields (·.setIfInBounds 0 .none)) (Ne.symm hne)).trans h1
  refine HotX.raiseNew_hot ⟨hh, o1, vs1, Heap.get?_push_of_some _ (Heap.get?_push_of_some _ q1), d1, c1⟩ (Nat.ne_of_lt (Heap.lt_size (Heap.get?_push_of_some _ q1))) (Heap.get?_push_size _ rfl) rfl (by first | (simp; done) | (simp; omega) | (simp only [Array.size_append]; simp; omega)) ?_
  refine wpAny_bind (wpAny_isInstance (T := "StopIteration") (b := true) ⟨_, Heap.get?_update_self _ (Heap.get?_push_size _ rfl) rfl, rfl⟩ isSubtype_stop ?_)
  refine wpAny_pure (hQ _ fun b u hb e => ?_)
  have q2 := (Heap.get?_update_other s.heap (Obj.mapFields (·.setIfInBounds 0 .none)) (Ne.symm hb)).trans e
  rw [Heap.get?_update_other _ _ (Nat.ne_of_gt (Heap.lt_size (Heap.get?_push_of_some _ q2)))]
  exact Heap.get?_push_of_some _ (Heap.get?_push_of_some _ q2)
open L2H in
theorem turn_listH {P : Program} {w : World} {K : PySem.W.Frag} {tg : Expr} (a it : Addr) : TurnH P w K tg (Itl K a) [it] it (fun i h => h.IsListIter it a i) := by
  have T : Turn P w K tg (Itl K a) [it] it (fun i h => h.IsListIter it a i) := turn_list a it
  refine ⟨T.mem, T.obj, T.keep, ?_, ?_, T.self⟩
  · intro X hP hw hK hc i pins s σ H E I hf st hg
    subst hP hw hK
    obtain ⟨xs, x, hq, hx⟩ := hg
    obtain ⟨its, rv, p, hz⟩ := I.list hq
    obtain ⟨u, hu, ru⟩ := rv.get hx
    obtain ⟨f0, f1, f2, f3, f4, f5⟩ := hf it (by simp)
    refine wpAny_pyNext_list_item st p.isList (x := u) (by simpa using hu) fun h' st' sb => ⟨u, rfl, ?_⟩
    have I1 := I.turned (t' := s.toks) (fun b o hb e => (sb.2 b hb).trans e) f0 f1 f3 f4 f5
    obtain ⟨oi, e, c, d⟩ := id st'
    exact go_of (s := { s with heap := h' }) e c d (by decide) ⟨x, H, I1, ru, ⟨rfl, fun ys hy => by rw [I.list_inj hy hq]; exact hx⟩, st', fun b hb => (hf b hb).1⟩
  · intro X hP hw hK hc i pins s σ H E I hf st hg
    subst hP hw hK
    obtain ⟨xs, hq, hx⟩ := hg
    obtain ⟨its, rv, p, hz⟩ := I.list hq
    have hl := rv.length
    obtain ⟨f0, f1, f2, f3, f4, f5⟩ := hf it (by simp)
    obtain ⟨x1, ⟨hh, v1, e1, c1⟩, hp⟩ := hc
    have hp := List.mem_append_left pins hp
    exact list_stop ⟨hh, x1.2, v1, (I.pin x1 hp).1, e1, c1⟩ (f5 x1 hp) st p.isList (by simp; omega) fun h' eb => ⟨rfl, I.turned (t' := s.toks) eb f0 f1 f3 f4 f5⟩
section
variable {X : Cx} {tg : Expr}
theorem pi_listH {l : Expr} {tl : TE} (hl : PE X l tl) : L2H.PIH X tg l (iList X.K tl) := by
  refine ⟨fun pins s σ H R I h => thn (hl.run pins s σ H _ I h) fun v s1 ⟨x, H1, I1, r1, a, e, ⟨xs, hq⟩, q⟩ => ?_⟩
  subst e
  cases r1
  obtain ⟨its, rv, p, hz⟩ := I1.list hq
  refine wpAny_pyIter_list p.isList ⟨s1.heap.objs.size, [s1.heap.objs.size], _, _, H1, rfl, I1.kept (t' := s1.toks) fun b o e => Heap.get?_push_of_some _ e, turn_listH a _, ⟨_, Heap.get?_push_size _ rfl, rfl, rfl⟩, fun b hb => ?_, q⟩
  rw [List.mem_singleton.mp hb]
  exact I1.fpOk (Nat.le_refl _) (I1.hok.fresh (Nat.le_refl _))
theorem pi_range2H {a b : Expr} {ta : TA} {p pos : Pos} (hg : Gl X "range") (hm : X.mg "range" = none) (ha : PA X [a, b] ta) (hs : starEach [a, b] X.env = [(false, eval a X.env), (false, eval b X.env)] := by rfl) (hs2 : starEach [b] X.env = [(false, eval b X.env)] := by rfl) :
    L2H.PIH X tg (.Call (.Name "range" p) [a, b] [] pos) (iRng2 ta) := by
  refine ⟨fun pins s σ H R I h => ?_⟩
  refine Call_ (ld_blt I hg hm boot_range (PyProof.Rows.callWith_type1 (thn (ha.run pos pins s σ H _ I h) fun us s1 ⟨vs, H1, I1, r1, q1⟩ => ?_) (by rw [hs, hs2]) (by rw [hs2]; rfl)))
  obtain ⟨i, j, e, ⟨q1, q2, q3, q4⟩, q⟩ := q1
  subst e
  cases r1 with
  | cons r rr =>
    cases rr with
    | cons r' rr =>
      cases rr
      obtain ⟨t, rfl⟩ := r
      obtain ⟨t', rfl⟩ := r'
      exact call_range_2 (L2H.range_itH I1 q1 q2 q3 q4 q)
end
/-- the block of a comprehension that keeps the pins of the def -/
abbrev blkH (X : Cx) (s : Shared) (H : Hp) (scope : Scope) (cenv : Env) (fp : List Addr) : Cx := { X.blk s H scope cenv fp with pn := X.pn }
abbrev newC (s : Shared) (scope : Scope) (env : Env) : Env := compEnvC scope (cellsFrom (s.heap.objs.size + 1) scope.names (cloFrom env.cells scope.names [])) s.heap.objs.size env
theorem blkH_start {X : Cx} {pins : List (Addr × Obj)} {σ : St} {H : Hp} {s : Shared} {scope : Scope} {own : List (Str × Nat)} {fp : List Addr} (I : Inv X pins σ H s) (ok : BlkOk X.N X.env.scope scope own) (hN : X.N.Nodup) (hfp : ∀ b ∈ fp, FpOk X pins H b ∧ b < s.heap.objs.size) :
    Inv (blkH X s H scope (newC s scope X.env) fp) [] (wipe σ (own.map (·.2))) H { s with heap := pushCells (s.heap.push { cls := .type "dict", data := .dict #[] }) scope.names } := by
  have J := block_start I ok hN hfp
  have O := J.ok
  refine ⟨⟨O.mod, O.kind, O.glob, O.blt, O.above, O.inj, O.has, O.cab, O.hd, O.frames, O.stk, O.exf, O.bs, O.bsz, O.noex, O.exfs, O.funs, O.frf⟩, J.os, J.bare, J.base, J.loc, J.cell, J.free, J.freeC, fun p hp => ?_, J.hok, J.len⟩
  have hp : p ∈ X.pn := by simpa using hp
  obtain ⟨p1, p2, p3, p4, p5⟩ := I.pin p (List.mem_append_left _ hp)
  refine ⟨pushCells_keeps _ _ _ _ (Heap.get?_push_of_some _ p1), p2, Nat.ne_of_lt (Heap.lt_size p1), fun z => ?_, p5⟩
  rcases List.mem_cons.mp (I.stkSub p.1 z) with y | y
  · exact p3 y
  · exact p4 y
/-- the block's context still bears the handled exception -/
theorem hotBlk {X : Cx} {s : Shared} {H : Hp} {scope : Scope} {cenv : Env} {fp : List Addr} (hc : L2H.HotC X) : L2H.HotC (blkH X s H scope cenv fp) := hc
section
variable {X : Cx} {elt tg iter : Expr} {ifs : List Expr} {scope : Scope} {own : List (Str × Nat)} {pos pos' : Pos} {wi : TI} {g : TG} {tt : TT} {te : TE}
/-- the turns of the block's loop -/
theorem lcH_loop {s : Shared} {σ : St} {H : Hp} {Q : VK} {R : Result → Shared → Prop} {fp : List Addr} {it D : Addr} {tn : Nat → Heap → Prop} {J : It} {cenv : Env} {s' : Shared} (hc : L2H.HotC X)
    (T : L2H.TurnH X.prog X.w X.K tg J fp it tn) (I0 : Inv (blkH X s H scope cenv fp) [] (wipe σ (own.map (·.2))) H s') (st0 : tn 0 s'.heap) (free0 : ∀ b ∈ fp, H b = none)
    (pg : PG (blkH X s H scope cenv fp) tg g) (pt : PTs (blkH X s H scope cenv fp) ifs tt) (pe : PE (blkH X s H scope cenv fp) elt te) (far : ∀ b ∈ fp, ∀ p ∈ X.pn, p.1 ≠ b)
    {W : Nat → Nat → Hp → Prop} {m0 : Nat} (w0 : W 0 m0 H)
    (turn : ∀ i m H, W i m H → (J.stop i H ∧ Q (.ref D) H) ∨ (J.go i H ∧ ∃ Nx : Hp → Prop, (∀ H', Nx H' → ∃ m', m' < m ∧ W (i + 1) m' H') ∧ ∀ x H', J.yld i H x H' → g x (wipe σ (own.map (·.2))) H' fun σ2 H2 => wipe σ2 (own.map (·.2)) = wipe σ (own.map (·.2)) ∧ tt σ2 H2 fun b H3 =>
      if b = true then te σ2 H3 fun y H4 => ∃ acc, H4 D = some (.lst acc) ∧ acc.length < sizeLine ∧ Nx (upd H4 D (.lst (acc ++ [y]))) else Nx H3))
    (fin : ∀ H' s1, Inv (blkH X s H scope cenv fp) [] (wipe σ (own.map (·.2))) H' s1 → Q (.ref D) H' → R (.ok .next) s1) :
    codeAny (model X.prog X.w) X.A (.compLoop (.ListComp elt [⟨tg, iter, ifs, 0⟩] scope pos) 0 (.ref it) (.ref D) cenv) R s' := by
  have aside : ∀ {σ1 : St} {H1 : Hp} {s1 : Shared}, Inv (blkH X s H scope cenv fp) [] σ1 H1 s1 → (∀ b ∈ fp, H1 b = none) → ∀ b ∈ fp, FpOk (blkH X s H scope cenv fp) [] H1 b := fun {σ1 H1 s1} I1 h1 b hb =>
    ⟨h1 b hb, (I1.ok.exf b hb).1, I1.ok.exfs b hb, .inl hb, (I1.ok.exf b hb).2, fun p hp => far b hb p (by simpa using hp)⟩
  refine compLoop_any (fun n s1 => ∃ i H1, Inv (blkH X s H scope cenv fp) [] (wipe σ (own.map (·.2))) H1 s1 ∧ tn i s1.heap ∧ (∀ b ∈ fp, H1 b = none) ∧ W i n H1) ?_ m0 ⟨0, H, I0, st0, free0, w0⟩
  rintro n s1 ⟨i, H1, I1, st1, fr1, w1⟩
  rcases turn i n H1 w1 with ⟨stop, qq⟩ | ⟨go, Nx, hNx, step⟩
  · refine thnF (T.done (blkH X s H scope cenv fp) rfl rfl rfl (hotBlk hc) i [] s1 _ H1 (fun _ _ => False) I1 (aside I1 fr1) st1 stop) fun r s2 ⟨hr, I2⟩ => ?_
    subst hr
    exact fin H1 s2 I2 qq
  · refine thnF (T.item (blkH X s H scope cenv fp) rfl rfl rfl (hotBlk hc) i [] s1 _ H1 (fun _ _ => False) I1 (aside I1 fr1) st1 go) fun r s2 ⟨u, hr, h2⟩ => ?_
    subst hr
    refine thnF h2 fun _ s3 ⟨x, H3, I3, r3, y3, st3, fr3⟩ => ?_
    refine thnF (pg.run _ s3 _ H3 x u _ (I3.pinned (aside I3 fr3) (T.obj _ _ st3)) r3 (step x H3 y3)) fun _ s4 ⟨σ4, H4, I4, e4, q4⟩ => ?_
    refine thnF (pt.run _ s4 σ4 H4 _ I4 q4) fun b s5 ⟨H5, I5, q5⟩ => ?_
    have next : ∀ {s6 : Shared} {H6 : Hp}, Inv (blkH X s H scope cenv fp) ([] ++ pinsAt fp s3.heap) σ4 H6 s6 → Nx H6 → ∃ m, m < n ∧ ∃ i H1, Inv (blkH X s H scope cenv fp) [] (wipe σ (own.map (·.2))) H1 s6 ∧ tn i s6.heap ∧ (∀ b ∈ fp, H1 b = none) ∧ W i m H1 := fun {s6 H6} I6 nx => by
      obtain ⟨m', hm, w'⟩ := hNx H6 nx
      have still : ∀ b ∈ fp, ∀ o, s3.heap.get? b = some o → s6.heap.get? b = some o ∧ H6 b = none := fun b hb o e =>
        ⟨(I6.pin (b, o) (List.mem_append_right _ (List.mem_append_right _ (mem_pinsAt hb e)))).1, (I6.pin (b, o) (List.mem_append_right _ (List.mem_append_right _ (mem_pinsAt hb e)))).2.1⟩
      refine ⟨m', hm, i + 1, H6, (I6.unpinned (pins := [])).weak (by rw [← e4, wipe_length]) (fun j v e => ?_), T.keep _ _ _ st3 fun b hb o e => (still b hb o e).1, fun b hb => ?_, w'⟩
      · rw [← e4] at e; exact (wipe_some e).1
      · obtain ⟨o, e, _⟩ := T.obj _ _ st3 b hb
        exact (still b hb o e).2
    cases b with
    | false =>
      simp only [Bool.false_eq_true, if_false] at q5 ⊢
      exact next I5 q5
    | true =>
      simp only [if_true] at q5 ⊢
      refine thnF (pe.run _ s5 σ4 H5 _ I5 q5) fun z s6 ⟨yv, H6, I6, r6, acc, hD, hz, nx⟩ => ?_
      exact app_ok (X := blkH X s H scope cenv fp) I6 hD hz r6 fun s7 I7 => next I7 nx
/-- [..] while an exception is handled -/
theorem lcH_core {pins : List (Addr × Obj)} {s : Shared} {σ : St} {H : Hp} {Q : VK} {use : Option (Value → Sem Unit)} {Qf : Value → Shared → Prop} (hc : L2H.HotC X) (hN : X.N.Nodup) (I : Inv X pins σ H s) (hi : L2H.PIH X tg iter wi) (ok : BlkOk X.N X.env.scope scope own)
    (hg : ∀ (s : Shared) (H : Hp) (C : Addr) (cl : List (Str × Addr)) (fp : List Addr), PG (blkH X s H scope (compEnvC scope cl C X.env) fp) tg g) (ht : ∀ (s : Shared) (H : Hp) (C : Addr) (cl : List (Str × Addr)) (fp : List Addr), PTs (blkH X s H scope (compEnvC scope cl C X.env) fp) ifs tt)
    (he : ∀ (s : Shared) (H : Hp) (C : Addr) (cl : List (Str × Addr)) (fp : List Addr), PE (blkH X s H scope (compEnvC scope cl C X.env) fp) elt te) (hs : ∀ x, foldedSetIterable iter X.env x = pure x)
    (h : tLc wi g tt te (own.map (·.2)) σ H Q)
    (out : ∀ D C s' m H', Inv X pins σ H' s' → Q (.ref D) H' → s'.heap.Ns C m → FpOk X pins H' C → compPost (model X.prog X.w) X.A X.xe use Qf (.ref D) C (.ok .next) s') :
    wpAny (model X.prog X.w) X.A (comprehension (.ListComp elt [⟨tg, iter, ifs, 0⟩] scope pos) scope X.env pos' (newList []) false (eval iter X.env) use) Qf X.xe s := by
  refine wpAny_comprehension_free (use := use) rfl hs (closure_ok fun y hy e => (ok.free y hy e).elim (fun k => I.ok.has _ (.inl k)) fun k => I.ok.has _ (.inr k)) ok.kind (fun y hy e => by rw [ok.uniq y hy, e])
    (thn (hi.run pins s σ H _ I h) fun xv s1 hx => thn hx fun itv s2 ⟨it, fp, tn, J, H2, e, I2, T, st2, f2, q⟩ => ?_)
  subst e
  refine wpAny_newObj_type (newEnv_comp ?_) (by show 0 ≤ sizeLine; decide)
  have hDn : H2 s2.heap.objs.size = none := I2.hok.fresh (Nat.le_refl _)
  obtain ⟨W, ⟨m0, w0⟩, turn⟩ := q _ hDn
  have I3 : Inv X pins σ (upd H2 s2.heap.objs.size (.lst [])) { s2 with heap := s2.heap.push { cls := .type "list", data := .seq ([] : List Value).toArray } } :=
    I2.laid (t' := s2.toks) (fun b o e => Heap.get?_push_of_some _ e) (Nat.le_refl _) ⟨Nat.zero_le _, [], 0, .nil, Heap.get?_push_size _ rfl⟩
  have lt2 : ∀ b ∈ fp, b < s2.heap.objs.size := fun b hb => let ⟨o, e, _⟩ := T.obj _ _ st2 b hb; Heap.lt_size e
  have nfp : ∀ b ∈ fp, (upd H2 s2.heap.objs.size (.lst [])) b = none := fun b hb => by rw [upd_ne (Nat.ne_of_lt (lt2 b hb))]; exact (f2 b hb).1
  have st3 : tn 0 (s2.heap.push { cls := .type "list", data := .seq ([] : List Value).toArray }) := T.keep _ _ _ st2 fun b _ o e => Heap.get?_push_of_some _ e
  have sz3 : (s2.heap.push { cls := .type "list", data := .seq ([] : List Value).toArray }).objs.size = s2.heap.objs.size + 1 := Heap.size_push ..
  have f3 : ∀ b ∈ fp, FpOk X pins (upd H2 s2.heap.objs.size (.lst [])) b ∧ b < (s2.heap.push { cls := .type "list", data := .seq ([] : List Value).toArray }).objs.size := fun b hb =>
    ⟨⟨nfp b hb, (f2 b hb).2⟩, by rw [sz3]; exact Nat.lt_succ_of_lt (lt2 b hb)⟩
  generalize hs3 : ({ s2 with heap := s2.heap.push { cls := .type "list", data := .seq ([] : List Value).toArray } } : Shared) = s3 at I3 ⊢
  have h3 : s2.heap.push { cls := .type "list", data := .seq ([] : List Value).toArray } = s3.heap := by rw [← hs3]
  rw [h3] at st3 f3
  have I4 := blkH_start I3 ok hN f3
  have st4 : tn 0 (pushCells (s3.heap.push { cls := .type "dict", data := .dict #[] }) scope.names) := T.keep _ _ _ st3 fun b _ o e => pushCells_keeps _ _ _ _ (Heap.get?_push_of_some _ e)
  have loop := lcH_loop (R := compPost (model X.prog X.w) X.A X.xe use Qf (.ref s2.heap.objs.size) s3.heap.objs.size) (iter := iter) (pos := pos) hc T I4 st4 nfp (hg _ _ _ _ _) (ht _ _ _ _ _) (he _ _ _ _ _) (fun b hb p hp => (f3 b hb).1.2.2.2.2.2 p (List.mem_append_left _ hp)) w0 turn fun H' s5 I5 q5 => by
    have I7 : Inv X pins σ H' s5 := I3.call' (ch := fp) I5.os I5.base I5.hok I5.bare fun b hb => ⟨(f3 b hb).1.2.2.2.1, (f3 b hb).1.2.1, (f3 b hb).1.2.2.2.2.1, (f3 b hb).1.2.2.2.2.2⟩
    obtain ⟨m, hn, _⟩ := I5.loc
    exact out _ s3.heap.objs.size s5 m H' I7 q5 hn (I3.fpOk (Nat.le_refl _) I5.free)
  exact codeAny_compStart_list loop (T.self X.A 0 _ _ _ st4 loop)
theorem pe_lcH (hc : L2H.HotC X) (hN : X.N.Nodup) (hi : L2H.PIH X tg iter wi) (ok : BlkOk X.N X.env.scope scope own)
    (hg : ∀ (s : Shared) (H : Hp) (C : Addr) (cl : List (Str × Addr)) (fp : List Addr), PG (blkH X s H scope (compEnvC scope cl C X.env) fp) tg g) (ht : ∀ (s : Shared) (H : Hp) (C : Addr) (cl : List (Str × Addr)) (fp : List Addr), PTs (blkH X s H scope (compEnvC scope cl C X.env) fp) ifs tt)
    (he : ∀ (s : Shared) (H : Hp) (C : Addr) (cl : List (Str × Addr)) (fp : List Addr), PE (blkH X s H scope (compEnvC scope cl C X.env) fp) elt te) (hs : ∀ x, foldedSetIterable iter X.env x = pure x := by intro _; rfl) :
    PE X (.ListComp elt [⟨tg, iter, ifs, 0⟩] scope pos) (tLc wi g tt te (own.map (·.2))) := by
  refine ⟨fun pins s σ H Q I h => ?_⟩
  rw [eval_ListComp]
  refine lcH_core hc hN I hi ok hg ht he hs h fun D C s' m H' I' q hn ⟨f0, f1, f2, f3, f4, f5⟩ => ⟨m, hn, fun h2 sb => ?_⟩
  exact ⟨.ref D, H', I'.turned (t' := s'.toks) (fun b o hb e => (sb.2 b hb).trans e) f0 f1 f3 f4 f5, rfl, q⟩
/-- name = [..] on one line, the name a local -/
theorem ps_setLcH {i : Nat} {y : Str} {py spos : Pos} (hc : L2H.HotC X) (hN : X.N.Nodup) (hy : X.N[i]? = some y) (hyl : X.env.scope.names.lookup y = some .local)
    (hsw : swapsWith (.ListComp elt [⟨tg, iter, ifs, 0⟩] scope pos) (some (.Name y py)) spos.line X.env = pure true) (hi : L2H.PIH X tg iter wi) (ok : BlkOk X.N X.env.scope scope own)
    (hg : ∀ (s : Shared) (H : Hp) (C : Addr) (cl : List (Str × Addr)) (fp : List Addr), PG (blkH X s H scope (compEnvC scope cl C X.env) fp) tg g) (ht : ∀ (s : Shared) (H : Hp) (C : Addr) (cl : List (Str × Addr)) (fp : List Addr), PTs (blkH X s H scope (compEnvC scope cl C X.env) fp) ifs tt)
    (he : ∀ (s : Shared) (H : Hp) (C : Addr) (cl : List (Str × Addr)) (fp : List Addr), PE (blkH X s H scope (compEnvC scope cl C X.env) fp) elt te) (hs : ∀ x, foldedSetIterable iter X.env x = pure x := by intro _; rfl) :
    PS X (.Assign [.Name y py] (.ListComp elt [⟨tg, iter, ifs, 0⟩] scope pos) spos) (tAsg (tLc wi g tt te (own.map (·.2))) (gName i)) := by
  refine ⟨fun pins s σ H D I h => ?_⟩
  rw [exec_Assign_Name_used _ _ _ _ hsw]
  refine wpAny_bind (wpAny_standAt (wpAny_bind ?_))
  show wpAny _ X.A (do let _ ← comprehension (.ListComp elt [⟨tg, iter, ifs, 0⟩] scope pos) scope X.env (firstIterPos [⟨tg, iter, ifs, 0⟩] pos) (newList []) false (eval iter X.env) (some (assign (.Name y py) X.env))) _ _ s
  have h : tLc wi g tt te (own.map (·.2)) σ H (fun x H1 => gName i x σ H1 D.nx) := h
  refine wpAny_bind (thn (lcH_core (Qf := fun _ s' => SP X pins D .next s') hc hN I hi ok hg ht he hs h fun L C s' m H' I' q hn ⟨f0, f1, f2, f3, f4, f5⟩ => ?_) fun _ s' hq => wpAny_pure (wpAny_pure hq))
  show wpAny _ _ (assign (.Name y py) X.env (.ref L)) _ _ _
  refine wpAny_assign_Name (store_ok2 (v := V.ref L) I' hN hy (.inl hyl) rfl (fun s2 I2 ⟨a, sb, ha⟩ => ⟨m, hn.sameBut sb ?_, fun h3 sb3 => ⟨_, H', I2.turned (t' := s2.toks) (fun b o hb e => (sb3.2 b hb).trans e) f0 f1 f3 f4 f5, q⟩⟩) (.inr hyl))
  rcases ha with z | z
  · rw [z]; exact f1
  · exact fun e => f4 y a z e.symm
end
end Lk
namespace Lk
open PySem PySem.Spec PyProof.Rows L2

/-! ### dicts -/
theorem hu0 {u : Nat} (h : u + 64 < cLine) : u < cLine := by omega
theorem hu1 {u : Nat} (h : u + 64 < cLine) : u + 1 < cLine := by omega
def aDIn (x y : V) (H : Hp) (Q : VK) : Prop := ∃ a o, y = .ref a ∧ DGet H a x o ∧ Q (.bl o.isSome) H
def aDNin (x y : V) (H : Hp) (Q : VK) : Prop := ∃ a o, y = .ref a ∧ DGet H a x o ∧ Q (.bl (!o.isSome)) H
def aDGet (x y : V) (H : Hp) (Q : VK) : Prop := ∃ a v, x = .ref a ∧ DGet H a y (some v) ∧ Q v H
def aDPut (x y v : V) (H : Hp) (k : Hp → Prop) : Prop := ∃ a H', x = .ref a ∧ DPut H a y v H' ∧ k H'
section
variable {σ : L2.St} {H : Hp} {Q : VK} {D : Ends} {td ty tv : TE}
theorem s_dnew (k : ∀ p, H p = none → Q (.ref p) (upd H p (.dK []))) : tDNewK σ H Q := k
theorem s_dnewT (k : ∀ p, H p = none → Q (.ref p) (upd H p (.dT []))) : tDNewT σ H Q := k
theorem s_din (k : ty σ H fun y H1 => td σ H1 fun x H2 => aDIn y x H2 Q) : tDIn ty td σ H Q := k
theorem s_dnin (k : ty σ H fun y H1 => td σ H1 fun x H2 => aDNin y x H2 Q) : tDNotIn ty td σ H Q := k
theorem s_dget (k : td σ H fun x H1 => ty σ H1 fun y H2 => aDGet x y H2 Q) : tDGet td ty σ H Q := k
theorem s_dput (k : tv σ H fun v H1 => td σ H1 fun x H2 => ty σ H2 fun y H3 => aDPut x y v H3 (D.nx σ)) : sDPut td ty tv D σ H := k
end
/-- a dict whose keys are the numbers us, each with the value v -/
def dkS (v : V) (us : List Int) : List (Key × V) := us.map fun u => (Sum.inl u, v)
def insU (us : List Int) (i : Int) : List Int := if i ∈ us then us else us ++ [i]
theorem dkS_val (v : V) (us : List Int) (i : Int) : valV (dkS v us) (Sum.inl i) = if i ∈ us then some v else none := by
  induction us with
  | nil => rfl
  | cons u us ih =>
    unfold dkS at ih ⊢
    rw [List.map_cons]
    by_cases c : u = i
    · subst c
      rw [valV_pos rfl, if_pos List.mem_cons_self]
    · rw [valV_neg (fun z => c (Sum.inl.inj z)), ih]
      by_cases d : i ∈ us
      · rw [if_pos d, if_pos (List.mem_cons_of_mem _ d)]
      · rw [if_neg d, if_neg (fun z => (List.mem_cons.mp z).elim (fun y => c y.symm) d)]
theorem dkS_put (v : V) (us : List Int) (i : Int) : putK (dkS v us) (Sum.inl i) v = dkS v (insU us i) := by
  unfold insU
  by_cases d : i ∈ us
  · rw [if_pos d]
    unfold putK
    rw [valV_any, dkS_val, if_pos d, if_pos (show (some v).isSome = true from rfl)]
    unfold dkS
    rw [List.map_map]
    apply List.map_congr_left
    intro u hu
    show (if (Sum.inl u : Key) = Sum.inl i then ((Sum.inl u : Key), v) else (Sum.inl u, v)) = _
    split <;> rfl
  · rw [if_neg d, putK_new v (by rw [dkS_val, if_neg d])]
    unfold dkS
    rw [List.map_append]; rfl
section
variable {H : Hp} {Q : VK} {a : Addr} {us : List Int} {i : Int} {v : V}
theorem w_dinI (hp : H a = some (.dK (dkS v us))) (k : Q (.bl (decide (i ∈ us))) H) : aDIn (.int i) (.ref a) H Q :=
  ⟨a, _, rfl, DGet.k (k := Sum.inl i) hp, by
    rw [dkS_val]
    by_cases c : i ∈ us
    · rw [if_pos c]; rw [decide_eq_true c] at k; exact k
    · rw [if_neg c]; rw [decide_eq_false c] at k; exact k⟩
theorem w_dninI (hp : H a = some (.dK (dkS v us))) (k : Q (.bl (!decide (i ∈ us))) H) : aDNin (.int i) (.ref a) H Q :=
  ⟨a, _, rfl, DGet.k (k := Sum.inl i) hp, by
    rw [dkS_val]
    by_cases c : i ∈ us
    · rw [if_pos c]; rw [decide_eq_true c] at k; exact k
    · rw [if_neg c]; rw [decide_eq_false c] at k; exact k⟩
theorem w_dputI {k : Hp → Prop} (hp : H a = some (.dK (dkS v us))) (hl : us.length < sizeLine) (q : k (upd H a (.dK (dkS v (insU us i))))) : aDPut (.ref a) (.int i) v H k :=
  ⟨a, _, rfl, DPut.k (k := Sum.inl i) hp (by unfold dkS; rw [List.length_map]; exact hl), by rw [dkS_put]; exact q⟩
end
theorem insU_len (us : List Int) (i : Int) : (insU us i).length ≤ us.length + 1 := by
  unfold insU
  split
  · omega
  · rw [List.length_append]; simp
theorem insU_mem {us : List Int} {i u : Int} : u ∈ insU us i ↔ u ∈ us ∨ u = i := by
  unfold insU
  by_cases c : i ∈ us
  · rw [if_pos c]
    exact ⟨.inl, fun h => h.elim id fun z => z ▸ c⟩
  · rw [if_neg c, List.mem_append, List.mem_singleton]
/-! ### list.pop(i) -/
section
variable {H : Hp} {Q : VK} {p : Addr}
theorem w_pop0 {us : List Int} {u : Int} {rest : List Int} (hp : H p = some (.lst (us.map V.int))) (e : us = u :: rest) (k : Q (.int u) (upd H p (.lst (rest.map V.int)))) : rPopAt (.ref p) [.int 0] H Q := by
  subst e
  refine ⟨p, _, 0, 0, .int u, rfl, rfl, hp, by omega, by omega, ?_, rfl, ?_⟩
  · simp [seqIndex?]
  · exact k
theorem w_popM {us : List Int} (hp : H p = some (.lst (us.map V.int))) (hl : 0 < us.length) (k : Q (.int (us.getD 0 default)) (upd H p (.lst ((us.drop 1).map V.int)))) : rPopAt (.ref p) [.int 0] H Q := by
  cases us with
  | nil => exact absurd hl (by simp)
  | cons u rest => exact w_pop0 hp rfl k
end
/-- a test that is a truth value of the kit -/
theorem s_tB {t : TE} {σ : L2.St} {H : Hp} {Q : Bool → Hp → Prop} (k : t σ H fun x H1 => aB x H1 Q) : tB t σ H Q := k
/-! ### tuple + tuple -/
theorem mapNe {α β : Type} {f : α → β} {us : List α} (h : us ≠ []) : us.map f ≠ [] := fun z => h (List.map_eq_nil_iff.mp z)
theorem w_catT {K : PySem.W.Frag} {H : Hp} {Q : VK} {a b : Addr} {xs ys : List V} (ha : H a = some (.tup xs)) (hb : H b = some (.tup ys)) (hx : xs ≠ []) (hy : ys ≠ []) (hz : xs.length + ys.length ≤ sizeLine) (k : ∀ p, H p = none → Q (.ref p) (upd H p (.tup (xs ++ ys)))) : rCatT K (.ref a) (.ref b) H Q :=
  ⟨a, b, xs, ys, rfl, rfl, .inl (.inl ha), .inl (.inl hb), hx, hz, fun z => absurd z hy, fun _ p hp => k p hp⟩
/-! ### loops over tuples, also while an exception is handled -/
theorem tup_stop {prog : Program} {w : World} {A : Around} {E : Value → Shared → Prop} {s : Shared} {it t x1 : Addr} {i : Nat} {items : Array Value} {Q : Option Value → Shared → Prop} (hot : HotX.HotAt A x1 s.heap) (hne : x1 ≠ it) (hit : s.heap.IsTupleIter it t i) (ht : s.heap.IsTuple t items) (hx : items[i]? = none)
    (hQ : ∀ h', (∀ b o, b ≠ it → s.heap.get? b = some o → h'.get? b = some o) → Q none { s with heap := h' }) : wpAny (model prog w) A (pyNext (.ref it)) Q E s := by
  obtain ⟨oi, hoi, hci, hdi⟩ := id hit
  obtain ⟨ol, hol, _, nl, hdl⟩ := ht
  obtain ⟨hh, o1, vs1, h1, d1, c1⟩ := hot
  unfold pyNext
  refine wpAny_bind (wpAny_attempt (wpAny_callSpecial?_slot (name := Str.ofString "__next__") hit.typeIs F.slot_tuple_iterator_next
    (wpAny_call_entry F.slot_tuple_iterator_next hit.typeIs F.entry_tuple_iterator_next ?_ (F.args_tuple_iterator_next_1 _))))
  show wpAny _ _ (field (.ref it) 0 >>= _) _ _ s
  refine wpAny_bind (wpAny_field hoi hdi (x := .ref t) rfl ?_)
  show wpAny _ _ (if (Value.ref t == Value.none) = true then _ else _) _ _ s
  rw [if_neg (show ¬ ((Value.ref t == Value.none) = true) from Bool.false_ne_true)]
  show wpAny _ _ (field (.ref it) 1 >>= _) _ _ s
  refine wpAny_bind (wpAny_field hoi hdi (x := .int i 0) rfl ?_)
  show wpAny _ _ (seqItems? (.ref t) >>= _) _ _ s
  refine wpAny_bind (wpAny_seqItems hol hdl ?_)
  simp only [Int.toNat_natCast, hx]
  refine wpAny_bind (wpAny_rule (wpAny_bind (wpAny_setField hoi hdi (by simp) ?_)))
  show wpAny _ _ (newExc (.type "StopIteration") [] >>= _) _ _ _
  refine wpAny_bind ?_
  simp only [newExc, newTuple]
  refine wpAny_bind (wpAny_newObj_type ?_ (by size_fits))
  refine wpAny_bind (m := firstArgMember _ _) (wpAny_of_eq (a := Value.none) (by first | rfl | (simp only [firstArgMember]; rfl)) ?_)
  refine wpAny_newObj_type ?_ (by size_fits)
  have q1 := (Heap.get?_update_other s.heap (Obj.mapFields (·.setIfInBounds 0 .none)) (Ne.symm hne)).trans h1
  refine HotX.raiseNew_hot ⟨hh, o1, vs1, Heap.get?_push_of_some _ (Heap.get?_push_of_some _ q1), d1, c1⟩ (Nat.ne_of_lt (Heap.lt_size (Heap.get?_push_of_some _ q1))) (Heap.get?_push_size _ rfl) rfl (by first | (simp; done) | (simp; omega) | (simp only [Array.size_append]; simp; omega)) ?_
  refine wpAny_bind (wpAny_isInstance (T := "StopIteration") (b := true) ⟨_, Heap.get?_update_self _ (Heap.get?_push_size _ rfl) rfl, rfl⟩ isSubtype_stop ?_)
  refine wpAny_pure (hQ _ fun b u hb e => ?_)
  have q2 := (Heap.get?_update_other s.heap (Obj.mapFields (·.setIfInBounds 0 .none)) (Ne.symm hb)).trans e
  rw [Heap.get?_update_other _ _ (Nat.ne_of_gt (Heap.lt_size (Heap.get?_push_of_some _ q2)))]
  exact Heap.get?_push_of_some _ (Heap.get?_push_of_some _ q2)
theorem turn_tupH {P : Program} {w : World} {K : PySem.W.Frag} {tg : Expr} (a it : Addr) : L2H.TurnH P w K tg (Itt K a) [it] it (fun i h => h.IsTupleIter it a i) := by
  have T : Turn P w K tg (Itt K a) [it] it (fun i h => h.IsTupleIter it a i) := turn_tuple a it
  refine ⟨T.mem, T.obj, T.keep, ?_, ?_, T.self⟩
  · intro X hP hw hK hc i pins s σ H E I hf st hg
    subst hP hw hK
    obtain ⟨xs, x, hq, hx⟩ := hg
    obtain ⟨its, rv, p, hz⟩ := I.tuple hq
    obtain ⟨u, hu, ru⟩ := rv.get hx
    obtain ⟨f0, f1, f2, f3, f4, f5⟩ := hf it (by simp)
    refine wpAny_pyNext_tuple_item st (show s.heap.IsTuple a its.toArray from p) (x := u) (by simpa using hu) fun h' st' sb => ⟨u, rfl, ?_⟩
    have I1 := I.turned (t' := s.toks) (fun b o hb e => (sb.2 b hb).trans e) f0 f1 f3 f4 f5
    obtain ⟨oi, e, c, d⟩ := id st'
    exact go_of (s := { s with heap := h' }) e c d (by decide) ⟨x, H, I1, ru, ⟨rfl, fun ys hy => by rw [I.tuple_inj hy hq]; exact hx⟩, st', fun b hb => (hf b hb).1⟩
  · intro X hP hw hK hc i pins s σ H E I hf st hg
    subst hP hw hK
    obtain ⟨xs, hq, hx⟩ := hg
    obtain ⟨its, rv, p, hz⟩ := I.tuple hq
    have hl := rv.length
    obtain ⟨f0, f1, f2, f3, f4, f5⟩ := hf it (by simp)
    obtain ⟨x1, ⟨hh, v1, e1, c1⟩, hp⟩ := hc
    have hp := List.mem_append_left pins hp
    exact tup_stop ⟨hh, x1.2, v1, (I.pin x1 hp).1, e1, c1⟩ (f5 x1 hp) st (show s.heap.IsTuple a its.toArray from p) (by simp; omega) fun h' eb => ⟨rfl, I.turned (t' := s.toks) eb f0 f1 f3 f4 f5⟩
theorem pi_tupH {X : Cx} {tg l : Expr} {tl : TE} (hl : PE X l tl) : L2H.PIH X tg l (iTup X.K tl) := by
  refine ⟨fun pins s σ H R I h => thn (hl.run pins s σ H _ I h) fun v s1 ⟨x, H1, I1, r1, a, e, ⟨xs, hq⟩, q⟩ => ?_⟩
  subst e
  cases r1
  obtain ⟨its, rv, p, hz⟩ := I1.tuple hq
  refine wpAny_pyIter_tuple (show s1.heap.IsTuple a its.toArray from p) ⟨s1.heap.objs.size, [s1.heap.objs.size], _, _, H1, rfl, I1.kept (t' := s1.toks) fun b o e => Heap.get?_push_of_some _ e, turn_tupH a _, ⟨_, Heap.get?_push_size _ rfl, rfl, rfl⟩, fun b hb => ?_, q⟩
  rw [List.mem_singleton.mp hb]
  exact I1.fpOk (Nat.le_refl _) (I1.hok.fresh (Nat.le_refl _))
section
variable {g : TG} {tb : TS} {D : Ends} {te : TE} {σ : L2.St} {H : Hp} {K : PySem.W.Frag} {nx bk ct : L2.St → Hp → Prop} {rt : VK}
def aFTup (K : PySem.W.Frag) (g : TG) (tb : TS) (D : Ends) (σ : L2.St) (x : V) (H1 : Hp) : Prop := ∃ a, x = .ref a ∧ (∃ xs, SqT K H1 a xs) ∧ aLoop (Itt K a) g tb D σ H1
theorem s_forT (k : te σ H fun x H1 => aFTup K g tb D σ x H1) : tFor (iTup K te) g tb D σ H := k
theorem w_forT {α : Type} {f : α → V} {us : List α} {p : Addr} (hp : H p = some (.tup (us.map f))) (Pv : Nat → L2.St → Hp → Prop) (h0 : Pv 0 σ H) (hl : ∀ i σ' H', i ≤ us.length → Pv i σ' H' → H' p = some (.tup (us.map f)))
    (hs : ∀ (i : Nat) (u : α) σ' H', us[i]? = some u → Pv i σ' H' → g (f u) σ' H' fun σ2 H2 => tb ⟨Pv (i + 1), rt, nx, Pv (i + 1)⟩ σ2 H2) (hd : ∀ σ' H', Pv us.length σ' H' → nx σ' H') : aFTup K g tb ⟨nx, rt, bk, ct⟩ σ (.ref p) H :=
  ⟨p, rfl, ⟨_, .inl (.inl hp)⟩, for_tup (K := K) (a := p) (xs := us.map f) Pv h0 (fun i σ' H' hi q => .inl (.inl (hl i σ' H' (by simpa using hi) q))) (fun i x σ' H' hx q => by
    rw [List.getElem?_map] at hx
    cases e : us[i]? with
    | none => rw [e] at hx; cases hx
    | some u =>
      rw [e] at hx
      cases hx
      exact hs i u σ' H' e q) (fun σ' H' q => hd σ' H' (by simpa using q))⟩
end
/-! ### lists of truth values -/
theorem eqvAll_bool : ∀ (ns ms : List Bool), PyData.eqvAll (ns.map PyData.bool) (ms.map PyData.bool) = decide (ns = ms) := by
  intro ns
  induction ns with
  | nil => intro ms; cases ms <;> simp [PyData.eqvAll]
  | cons n ns ih =>
    intro ms
    cases ms with
    | nil => simp [PyData.eqvAll]
    | cons m ms =>
      rw [List.map_cons, List.map_cons, PyData.eqvAll, ih]
      cases n <;> cases m <;> simp [PyData.eqv]
theorem dpAllB {K : PySem.W.Frag} {H : Hp} : ∀ (ns : List Bool), DpAll K H (ns.map V.bl) (ns.map PyData.bool)
  | [] => .nil
  | n :: ns => .cons (.bl n) (dpAllB ns)
theorem shapedB (ns : List Bool) : SeqAt.shaped (.list (ns.map PyData.bool)) = true := by
  have h1 : ∀ ns : List Bool, PyData.canLayAll0 (ns.map PyData.bool) = true := by
    intro ns
    induction ns with
    | nil => rfl
    | cons n ns ih => rw [List.map_cons, PyData.canLayAll0, ih]; rfl
  have h2 : ∀ ns : List Bool, PyData.depthAll (ns.map PyData.bool) = 0 := by
    intro ns
    induction ns with
    | nil => rfl
    | cons n ns ih => rw [List.map_cons, PyData.depthAll, ih]; rfl
  unfold SeqAt.shaped
  rw [PyData.canLay0, h1, PyData.depth, h2]
  decide
theorem w_eqLB {K : PySem.W.Frag} {H : Hp} {Q : VK} {p q : Addr} {ns ms : List Bool} (hp : H p = some (.lst (ns.map V.bl))) (hq : H q = some (.lst (ms.map V.bl))) (k : Q (.bl (decide (ns = ms))) H) : aEq K (.ref p) (.ref q) H Q :=
  .inr ⟨_, _, .lst (SqL.of hp) (dpAllB ns), .lst (SqL.of hq) (dpAllB ms), shapedB ns, shapedB ms, by rw [PyData.eqv, eqvAll_bool]; exact k⟩
/-! ### leaving a loop -/
theorem s_brk {σ : St} {H : Hp} {nx bk ct : St → Hp → Prop} {rt : VK} (k : bk σ H) : tBreak ⟨nx, rt, bk, ct⟩ σ H := k
theorem s_cont {σ : St} {H : Hp} {nx bk ct : St → Hp → Prop} {rt : VK} (k : ct σ H) : tCont ⟨nx, rt, bk, ct⟩ σ H := k
/-! ### a cut at a test -/
def tCutT (t : TT) : TT := fun σ H Q => ∃ P : Bool → Hp → Prop, t σ H P ∧ ∀ b H1, P b H1 → Q b H1
theorem pt_cutT {X : Cx} {e : Expr} {t : TT} (h : PT X e t) : PT X e (tCutT t) :=
  ⟨fun pins s σ H Q I ⟨P, h1, h2⟩ => thn (h.run pins s σ H P I h1) fun b s1 ⟨H1, I1, q1⟩ => ⟨H1, I1, h2 b H1 q1⟩⟩
theorem s_cutT {t : TT} {σ : St} {H : Hp} {Q : Bool → Hp → Prop} (p : Prop) [Decidable p] (h1 : t σ H fun b H1 => H1 = H ∧ b = decide p) (h2 : Q (decide p) H) : tCutT t σ H Q :=
  ⟨_, h1, fun _ _ ⟨e1, e2⟩ => by rw [e1, e2]; exact h2⟩
theorem s_cutTK {t : TT} {σ : St} {H : Hp} {Q : Bool → Hp → Prop} (p : Prop) [Decidable p] (R : Hp → Prop) (h1 : t σ H fun b H1 => R H1 ∧ b = decide p) (h2 : ∀ H1, R H1 → Q (decide p) H1) : tCutT t σ H Q :=
  ⟨_, h1, fun _ H1 ⟨e1, e2⟩ => by rw [e2]; exact h2 H1 e1⟩
/-! ### pairs in order -/
theorem w_leT2 {K : PySem.W.Frag} {H : Hp} {Q : VK} {p q : Addr} {x y z w : Int} (hp : H p = some (.tup [.int x, .int y])) (hq : H q = some (.tup [.int z, .int w])) (k : Q (.bl (decide (x < z ∨ (x = z ∧ y ≤ w)))) H) : rLeT K (.ref p) (.ref q) H Q := by
  refine ⟨p, q, [x, y], [z, w], rfl, rfl, SqT.of hp, SqT.of hq, ?_⟩
  rw [show Ob.lexAt (fun j => decide (([x, y] : List Int).getD j 0 = ([z, w] : List Int).getD j 0)) (fun j => decide (([x, y] : List Int).getD j 0 ≤ ([z, w] : List Int).getD j 0)) (decide (([x, y] : List Int).length ≤ ([z, w] : List Int).length)) 0 (min ([x, y] : List Int).length ([z, w] : List Int).length) = decide (x < z ∨ (x = z ∧ y ≤ w)) from ?_]
  · exact k
  · show (if decide (x = z) = true then (if decide (y = w) = true then decide (2 ≤ 2) else decide (y ≤ w)) else decide (x ≤ z)) = _
    by_cases c : x = z
    · rw [if_pos (decide_eq_true c)]
      by_cases d : y = w
      · rw [if_pos (decide_eq_true d)]; exact decide_eq_decide.mpr (by omega)
      · rw [if_neg (by simpa using d)]; exact decide_eq_decide.mpr (by omega)
    · rw [if_neg (by simpa using c)]; exact decide_eq_decide.mpr (by omega)
end Lk
namespace Lk
open PySem PySem.Spec PyProof.Rows L2

/-! ### comprehensions over tuples -/
section
variable {σ : L2.St} {H : Hp} {g : TG} {tt : TT} {te tl : TE} {K : PySem.W.Frag} {vs : List Nat} {Q : VK} {β : Type} {f' : β → V}
def aCTup (K : PySem.W.Frag) (g : TG) (tt : TT) (te : TE) (vs : List Nat) (σ : L2.St) (Q : VK) (x : V) (H1 : Hp) : Prop := ∃ a, x = .ref a ∧ (∃ xs, SqT K H1 a xs) ∧ aComp (Itt K a) g tt te vs σ Q H1
theorem s_lcT (k : tl σ H fun x H1 => aCTup K g tt te vs σ Q x H1) : tLc (iTup K tl) g tt te vs σ H Q := k
theorem w_lcT (ψ : V → Option β) {us : List V} {p : Addr} (hp : H p = some (.tup us)) (hz : us.length < sizeLine)
    (hs : ∀ (D : Addr) (i : Nat) (u : V) (acc : List V) (H' : Hp), H D = none → us[i]? = some u → Kp [] H H' → H' D = some (.lst acc) → acc.length < sizeLine → g u (wipe σ vs) H' fun σ2 H2 => wipe σ2 vs = wipe σ vs ∧ tt σ2 H2 fun b H3 =>
      if b = true then te σ2 H3 (aKeep H D (acc ++ (ψ u).toList.map f')) else cNx H D (acc ++ (ψ u).toList.map f') H3)
    (k : ∀ D H', H D = none → Kp [] H H' → H' D = some (.lst ((us.filterMap ψ).map f')) → Q (.ref D) H') : aCTup K g tt te vs σ Q (.ref p) H :=
  ⟨p, rfl, ⟨_, .inl (.inl hp)⟩, fun D hD => lc_tup (K := K) (a := p) (xs := us) (fun i => cNx H D (((us.take i).filterMap ψ).map f')) ⟨Kp.refl.new hD, upd_same⟩
    (fun i H' hi q => .inl (.inl (q.1.at0 hp))) (fun i x H' hx q => by
      have hl : i < us.length := (List.getElem?_eq_some_iff.mp hx).1
      have hlen : (((us.take i).filterMap ψ).map f').length < sizeLine := by
        have := fm_len ψ (us.take i)
        rw [List.length_take] at this
        rw [List.length_map]
        omega
      have h := hs D i x _ H' hD hx q.1 q.2 hlen
      have e2 : ((us.take (i + 1)).filterMap ψ).map f' = ((us.take i).filterMap ψ).map f' ++ (ψ x).toList.map f' := by rw [fm_snoc ψ hx, List.map_append]
      rw [e2]
      exact h) (fun H' q => k D H' hD q.1 (by
        have := q.2
        rw [List.take_length] at this
        exact this))⟩
end
theorem room65 {k : Nat} {A : Around} (r : Room k A) : A.units + 65 < cLine := by have := r.un; omega
/-! ### a list of tuples has it -/
section
variable {K : PySem.W.Frag} {H : Hp}
theorem w_inD {x y : V} {d : PyData} {ds : List PyData} {Q : VK} (h1 : DV K H 10 x d) (h2 : DV K H 10 y (.list ds)) (k : Q (.bl (ds.any fun z => PyData.eqv z d)) H) : rInD K x y H Q :=
  ⟨d, ds, h1.1, h2.1, h1.shaped (by decide), h2.shaped (by decide), k⟩
end
section
variable {K : PySem.W.Frag} {H : Hp}
theorem w_neV {x y : V} {d e : PyData} {Q : VK} (h1 : DV K H 10 x d) (h2 : DV K H 10 y e) (k : Q (.bl (!PyData.eqv d e)) H) : aNe K x y H Q :=
  .inr ⟨d, e, h1.1, h2.1, h1.shaped (by decide), h2.shaped (by decide), k⟩
theorem okV_int (us : List Int) : (us.map V.int).all okV = true := by
  rw [List.all_map, List.all_eq_true]
  intro u _
  rfl
theorem DV.ints {n : Nat} {p : Addr} {us : List Int} (hp : H p = some (.lst (us.map V.int))) : DV K H (n + 1) (.ref p) (.list ((us.map V.int).map datV)) := DV.lst hp (DvAll.row (okV_int us))
theorem DvAll.refs {n : Nat} {ρ : Addr → List Int} : ∀ {qs : List Addr}, (∀ q ∈ qs, H q = some (.lst ((ρ q).map V.int))) → ∃ ds, DvAll K H (n + 1) (qs.map V.ref) ds ∧ ds.length = qs.length
  | [], _ => ⟨[], .nil, rfl⟩
  | q :: qs, h => by
    obtain ⟨ds, h1, h2⟩ := DvAll.refs (n := n) (qs := qs) (fun q hq => h q (List.mem_cons_of_mem _ hq))
    exact ⟨_, .cons (DV.ints (h q List.mem_cons_self)) h1, by simp [h2]⟩
/-- a list of lists of numbers is empty, or not -/
theorem w_neRefs {ρ : Addr → List Int} {p q : Addr} {qs : List Addr} {Q : VK} (hp : H p = some (.lst (qs.map V.ref))) (hq : H q = some (.lst [])) (h : ∀ q ∈ qs, H q = some (.lst ((ρ q).map V.int))) (k : Q (.bl (!decide (qs = []))) H) : aNe K (.ref p) (.ref q) H Q := by
  obtain ⟨ds, h1, h2⟩ := DvAll.refs (K := K) (n := 8) h
  refine w_neV (d := .list ds) (e := .list []) (DV.lst hp h1) (DV.lst hq .nil) ?_
  cases qs with
  | nil =>
    obtain rfl : ds = [] := List.length_eq_zero_iff.mp h2
    rw [show PyData.eqv (.list []) (.list []) = true by simp [PyData.eqv, PyData.eqvAll]]
    exact k
  | cons q qs =>
    have : PyData.eqvAll ds [] = false := eqvAll_len (by simp [h2])
    rw [show PyData.eqv (.list ds) (.list []) = false by rw [PyData.eqv]; exact this]
    exact k
end
theorem s_cutTG {t : TT} {σ : L2.St} {H : Hp} {Q : Bool → Hp → Prop} (R : Bool → Hp → Prop) (h1 : t σ H R) (h2 : ∀ b H1, R b H1 → Q b H1) : tCutT t σ H Q := ⟨R, h1, h2⟩
theorem w_extMI {H : Hp} {Q : VK} {p q : Addr} {us vs : List Int} (hp : H p = some (.lst (us.map V.int))) (hq : H q = some (.lst (vs.map V.int))) (hl : us.length + vs.length ≤ sizeLine) (k : Q .non (upd H p (.lst ((us ++ vs).map V.int)))) : rExtend (.ref p) [.ref q] H Q :=
  ⟨p, q, _, _, rfl, rfl, hp, hq, by simpa using hl, by rw [← List.map_append]; exact k⟩
theorem kb_ti : kitB "tuple" "int" = some false := by decide +kernel
theorem kb_tb : kitB "tuple" "bool" = some false := by decide +kernel
theorem kb_sb : kitB "str" "bool" = some false := by decide +kernel
theorem kb_nb : kitB "NoneType" "bool" = some false := by decide +kernel
/-! ### xs[lo::3] -/
theorem vals_pick {xs : List V} {us : List Value} (r : Vals xs us) : ∀ ks : List Nat, Vals (ks.filterMap (xs[·]?)) (ks.filterMap (us.toArray[·]?))
  | [] => .nil
  | k :: ks => by
    have ih := vals_pick r ks
    have hl := r.length
    by_cases c : k < xs.length
    · obtain ⟨u, e, ru⟩ := r.get (i := k) (x := xs[k]) (List.getElem?_eq_getElem c)
      rw [List.filterMap_cons, List.filterMap_cons]
      have e1 : xs[k]? = some xs[k] := List.getElem?_eq_getElem c
      have e2 : us.toArray[k]? = some u := by simpa using e
      rw [e1, e2]
      exact .cons ru ih
    · rw [List.filterMap_cons, List.filterMap_cons]
      have e1 : xs[k]? = none := List.getElem?_eq_none (by omega)
      have e2 : us.toArray[k]? = none := by simp; omega
      rw [e1, e2]
      exact ih
def tSlSt (K : PySem.W.Frag) (te : TE) (tl : TO) : TE := fun σ H Q => te σ H fun x H1 => tl σ H1 fun _ H2 => ∃ a xs, x = .ref a ∧ SqL K H2 a xs ∧ ∀ ys : List V, (∀ y ∈ ys, y ∈ xs) → ys.length ≤ xs.length → ∀ p, H2 p = none → Q (.ref p) (upd H2 p (.lst ys))
theorem s_slSt {K : PySem.W.Frag} {te : TE} {tl : TO} {σ : L2.St} {H : Hp} {Q : VK} (k : te σ H fun x H1 => tl σ H1 fun _ H2 => ∃ a xs, x = .ref a ∧ SqL K H2 a xs ∧ ∀ ys : List V, (∀ y ∈ ys, y ∈ xs) → ys.length ≤ xs.length → ∀ p, H2 p = none → Q (.ref p) (upd H2 p (.lst ys))) : tSlSt K te tl σ H Q := k
theorem pe_slSt {X : Cx} {e lo : Expr} {te : TE} {tl : TO} {k : Nat} {p1 p3 pos : Pos} (he : PE X e te) (hl : PO X (some lo) tl) : PE X (.Subscript e (.Slice (some lo) none (some (.Constant (.int 3) k p1)) p3) pos) (tSlSt X.K te tl) := by
  refine ⟨fun pins s σ H Q I h => ?_⟩
  refine Subscript_ (thn (he.run pins s σ H _ I h) fun v s1 ⟨x, H1, I1, r1, q1⟩ => ?_)
  have hst : PO X (some (.Constant (.int 3) k p1)) (tPart (tC (.int 3))) := po_some pe_int
  refine wpAny_Slice (thn (hl.run pins s1 σ H1 _ I1 q1) fun vl s2 ⟨l, H2, I2, pl, q2⟩ => ?_)
  obtain ⟨a, xs, ex, hx, q⟩ := q2
  subst ex
  cases r1
  refine thn (po_none.run pins s2 σ H2 (fun o H3 => o = none ∧ H3 = H2) I2 ⟨rfl, rfl⟩) fun vu s3 ⟨u, H3, I3, pu, eu, e3⟩ => ?_
  subst eu e3
  refine thn (hst.run pins s3 σ H3 (fun o H4 => o = some 3 ∧ H4 = H3) I3 ⟨3, rfl, rfl, rfl⟩) fun vs s4 ⟨o, H4, I4, ps, eo, e4⟩ => ?_
  subst eo e4
  have I5 : Inv X pins σ H4 { s4 with heap := s4.heap.push { cls := .type "slice", data := .fields #[vl, vu, vs] } } := I4.kept (t' := s4.toks) fun b ob q => Heap.get?_push_of_some _ q
  obtain ⟨its, r, ht, hz⟩ := I5.list hx
  have hlen := r.length
  show wpAny (model X.prog X.w) X.A (subscriptTail e (.Slice (some lo) none (some (.Constant (.int 3) k p1)) p3) (.ref a) (.ref s4.heap.objs.size)) (EP X pins σ Q) X.xe { s4 with heap := s4.heap.push { cls := .type "slice", data := .fields #[vl, vu, vs] } }
  refine tail_any (ops := [.ref a, .ref s4.heap.objs.size]) ht.isList.typeIs (PySem.slot_list_getitem.lookup) ?_ (by with_unfolding_all rfl)
  refine wpAny_getItem_list_slice ht.isList (Heap.IsSliceOf.new _ vl vu vs) pl pu ps (by decide) ?_ (by rw [List.size_toArray]; omega)
  have hps := slicePick_size_le its.toArray l none (some 3)
  have rp := vals_pick r (sliceRange (sliceBounds l none (some 3) its.toArray.size).1 (sliceBounds l none (some 3) its.toArray.size).2.1 (sliceBounds l none (some 3) its.toArray.size).2.2)
  have epk : slicePick its.toArray l none (some 3) = ((sliceRange (sliceBounds l none (some 3) its.toArray.size).1 (sliceBounds l none (some 3) its.toArray.size).2.1 (sliceBounds l none (some 3) its.toArray.size).2.2).filterMap (its.toArray[·]?)).toArray := rfl
  rw [epk] at hps ⊢
  generalize sliceRange (sliceBounds l none (some 3) its.toArray.size).1 (sliceBounds l none (some 3) its.toArray.size).2.1 (sliceBounds l none (some 3) its.toArray.size).2.2 = ks at hps rp ⊢
  have hyl : (ks.filterMap (xs[·]?)).length ≤ xs.length := by
    have := rp.length
    rw [List.size_toArray, List.size_toArray] at hps
    omega
  have hym : ∀ y ∈ ks.filterMap (xs[·]?), y ∈ xs := by
    intro y hy
    obtain ⟨j, _, e⟩ := List.mem_filterMap.mp hy
    exact List.mem_of_getElem? e
  refine ⟨.ref _, _, I5.laid (t' := s4.toks) (o := .lst (ks.filterMap (xs[·]?))) (fun b ob q => Heap.get?_push_of_some _ q) (Nat.le_refl _) ?_, rfl, q _ hym hyl _ (I5.hok.fresh (Nat.le_refl _))⟩
  exact ⟨by omega, _, 0, rp, Heap.get?_push_size _ rfl⟩
/-! ### lists of lists of numbers -/
/-- at qs stand the lists xss -/
def Rws (H : Hp) (qs : List Addr) (xss : List (List Int)) : Prop := qs.length = xss.length ∧ ∀ (i : Nat) (q : Addr) (xs : List Int), qs[i]? = some q → xss[i]? = some xs → H q = some (.lst (xs.map V.int))
theorem Rws.nil {H : Hp} : Rws H [] [] := ⟨rfl, fun i q xs h => by simp at h⟩
theorem Rws.kp0 {H H' : Hp} {qs : List Addr} {xss : List (List Int)} (h : Rws H qs xss) (k : Kp [] H H') : Rws H' qs xss := ⟨h.1, fun i q xs h1 h2 => k.at0 (h.2 i q xs h1 h2)⟩
theorem Rws.kpS {ms : List Addr} {H H' : Hp} {qs : List Addr} {xss : List (List Int)} (h : Rws H qs xss) (k : Kp ms H H') (s : ∀ q ∈ qs, q ∉ ms) : Rws H' qs xss := ⟨h.1, fun i q xs h1 h2 => k q _ (h.2 i q xs h1 h2) (s q (List.mem_of_getElem? h1))⟩
theorem Rws.snoc {H : Hp} {qs : List Addr} {xss : List (List Int)} {q : Addr} {xs : List Int} (h : Rws H qs xss) (e : H q = some (.lst (xs.map V.int))) : Rws H (qs ++ [q]) (xss ++ [xs]) := by
  refine ⟨by simp [h.1], fun i q' xs' h1 h2 => ?_⟩
  by_cases z : i < qs.length
  · rw [List.getElem?_append_left z] at h1
    rw [List.getElem?_append_left (by rw [← h.1]; exact z)] at h2
    exact h.2 i q' xs' h1 h2
  · rw [List.getElem?_append_right (by omega)] at h1
    rw [List.getElem?_append_right (by rw [← h.1]; omega), ← h.1] at h2
    by_cases y : i - qs.length = 0
    · rw [y] at h1 h2
      simp at h1 h2
      subst h1 h2
      exact e
    · rw [List.getElem?_eq_none (by simp; omega)] at h1
      cases h1
theorem Rws.at {H : Hp} {qs : List Addr} {xss : List (List Int)} (h : Rws H qs xss) {i : Nat} (hi : i < xss.length) : ∃ q, qs[i]? = some q ∧ H q = some (.lst ((xss.getD i []).map V.int)) := by
  have h1 : i < qs.length := by rw [h.1]; exact hi
  refine ⟨qs[i], List.getElem?_eq_getElem h1, h.2 i _ _ (List.getElem?_eq_getElem h1) ?_⟩
  rw [List.getD_eq_getElem?_getD, List.getElem?_eq_getElem hi]; rfl
/-- one row is changed -/
theorem Rws.set {H : Hp} {qs : List Addr} {xss : List (List Int)} (h : Rws H qs xss) (nd : qs.Nodup) {i : Nat} {q : Addr} {xs : List Int} (hq : qs[i]? = some q) : Rws (upd H q (.lst (xs.map V.int))) qs (xss.set i xs) := by
  refine ⟨by simp [h.1], fun j q' xs' h1 h2 => ?_⟩
  by_cases z : i = j
  · subst z
    rw [hq] at h1
    cases h1
    have : i < xss.length := by rw [← h.1]; exact (List.getElem?_eq_some_iff.mp hq).1
    rw [List.getElem?_set_self this] at h2
    cases h2
    exact upd_same
  · rw [List.getElem?_set_ne z] at h2
    have ne : q' ≠ q := fun e => by
      subst e
      have a1 := List.getElem?_eq_some_iff.mp hq
      have a2 := List.getElem?_eq_some_iff.mp h1
      have nd2 := List.pairwise_iff_getElem.mp nd
      rcases Nat.lt_trichotomy i j with c | c | c
      · exact nd2 i j a1.1 a2.1 c (a1.2.trans a2.2.symm)
      · exact z c
      · exact nd2 j i a2.1 a1.1 c (a2.2.trans a1.2.symm)
    exact upd_get ne (h.2 j q' xs' h1 h2)
end Lk
namespace Lk
open PySem PySem.Spec PyProof.Rows L2 TL
/-! ### signed numbers as texts -/
section
open PySem.Builtin PySem.Builtin.Float
theorem wp_ifT {α : Type} {M : Model} {A : Around} {E : Value → Shared → Prop} {s : Shared} {Q : α → Shared → Prop} {c : Prop} [Decidable c] {x y : Sem α} (h : c) (k : wpAny M A x Q E s) : wpAny M A (if c then x else y) Q E s := by rw [if_pos h]; exact k
theorem wp_ifF {α : Type} {M : Model} {A : Around} {E : Value → Shared → Prop} {s : Shared} {Q : α → Shared → Prop} {c : Prop} [Decidable c] {x y : Sem α} (h : ¬c) (k : wpAny M A y Q E s) : wpAny M A (if c then x else y) Q E s := by rw [if_neg h]; exact k
def plusF : FormatSpec := { fill := 32, align := 62, sign := some 43, type := some 100 }
def plusD : Str := Str.ofString "+d"
theorem fmt_plus {prog : Program} {w : World} {A : Around} {E : Value → Shared → Prop} {s : Shared} {a : Int} {t : Tok} {Q : Value → Shared → Prop} (hd : a.natAbs.log2 < 1920) (hl : (intSpecText plusF a).length ≤ sizeLine)
    (h : Q (.str (intSpecText plusF a) (s.toks + 1)) { s with toks := s.toks + 1 + 1 }) : wpAny (model prog w) A (formatField (.int a t) plusD) Q E s := by
  have hp : parseFormatSpec plusD.cps.toList "int" 62 = .ok plusF := rfl
  have hne : (plusD.length == 0) = false := by decide
  have hasc : ((plusD.cps.toList.drop 1).any (· ≥ 128) || (plusD.cps.getD 0 0 ≥ 128 && !([60, 62, 61, 94] : List Nat).contains (plusD.cps.getD 1 0))) = false := by decide
  have hty : plusF.type.getD (if plusD.cps.back? == some 0 then 0 else 100) = 100 := rfl
  show wpAny _ _ (holding [.int a t] (pyFormat (.int a t) plusD)) Q E s
  refine wpAny_holding ?_
  unfold pyFormat
  refine wpAny_bind (wpAny_mkStr ?_ (by decide))
  refine wpAny_bind (m := callSpecial? (.int a t) (Str.ofString "__format__") [.str plusD s.toks]) (wpAny_callSpecial?_slot (name := Str.ofString "__format__") (typeIs_int _ a t) slot_int_format ?_)
  refine wpAny_call (codeAny_call_builtin slot_int_format.plain entry_int_format (slot_int_format.check _ _ _ _ _ _ _ _ (typeIs_int _ a t) (args_int_format _ _) ?_))
  unfold Builtin.«int.__format__»
  simp only [selfAndOne, noKeywords, Int.intOfSelf, asInt?, asStr?, List.isEmpty_nil, if_true, pure_bind, bind_pure, bind_assoc, hne, hasc, Bool.false_eq_true, if_false,
    show (Value.str plusD s.toks == Value.none) = false from rfl]
  refine wpAny_bind (wpAny_typeNameOf (T := "str") (typeIs_str _ _ _) (by decide) fun _ => ?_)
  refine wpAny_bind (wpAny_typeNameOfCut_int ?_)
  simp only [hp, hty]
  refine wp_ifT (by decide) ?_
  show wpAny _ _ (do let r ← Builtin.overDigitLimit? a; _) _ _ _
  rw [PySem.overDigitLimit_small hd]
  refine wpAny_bind (wpAny_pure ?_)
  show wpAny _ _ (retStr _) _ _ _
  unfold retStr
  refine wpAny_bind (wpAny_mkStr (wpAny_pure ?_) ?hs2)
  case hs2 =>
    simp only [show plusF.alt = false from rfl, Bool.false_eq_true, if_false, show ((10 : Nat) == 10) = true by decide, if_true]
    conv => lhs; arg 1; whnf
    simp only [intSpecText, intField', show plusF.alt = false from rfl, Bool.false_eq_true, if_false, show ((10 : Nat) == 10) = true by decide, if_true] at hl ⊢
    exact hl
  dsimp only
  refine wpAny_bind (wpAny_isInstance (typeIs_str _ _ _) isSubtype_str_str (wpAny_pure ?_))
  simp only [show plusF.alt = false from rfl, Bool.false_eq_true, if_false, show ((10 : Nat) == 10) = true by decide, if_true]
  conv => arg 1; arg 1; whnf
  simp only [intSpecText, intField', show plusF.alt = false from rfl, Bool.false_eq_true, if_false, show ((10 : Nat) == 10) = true by decide, if_true] at h ⊢
  exact h
end
/-- the text of a signed number -/
def strP (a : Int) : Str := (if a < 0 then ("-" : Str) else "+") ++ strI (a.natAbs : Int)
theorem plus_text (a : Int) : intSpecText plusF a = strP a := by
  have e := PyProof.Rows.text_ofNat a.natAbs
  have e2 : strI (a.natAbs : Int) = ⟨((Nat.toDigits 10 a.natAbs).map Char.toNat).toArray⟩ := e
  have hd : ∀ ds : List Nat, ds.isEmpty = false → intField' plusF (decide (a < 0)) [] ds [] 3 = ⟨((if a < 0 then [45] else [43]) ++ ds).toArray⟩ := fun ds hds => by
    unfold intField' plusF
    by_cases c : a < 0
    · simp [c, hds]
    · simp [c, hds]
  have hm : ((Nat.toDigits 10 a.natAbs).map fun c => (if (100 : Nat) == 88 then c.toUpper else c).toNat) = (Nat.toDigits 10 a.natAbs).map Char.toNat := List.map_congr_left (fun c _ => by simp)
  unfold intSpecText strP
  rw [hm, hd, e2]
  · by_cases c : a < 0
    · rw [if_pos c, if_pos c]
      refine ext_tl ?_
      rw [tl_append, show tl "-" = [45] by decide +kernel]
    · rw [if_neg c, if_neg c]
      refine ext_tl ?_
      rw [tl_append, show tl "+" = [43] by decide +kernel]
  · have := tDigits_len_ge 10 a.natAbs
    cases e : Nat.toDigits 10 a.natAbs with
    | nil => rw [e] at this; simp at this
    | cons _ _ => rfl
theorem strP_len {a : Int} (h : a.natAbs < 10 ^ 18) : (strP a).length ≤ 19 := by
  have e : strI (a.natAbs : Int) = ⟨((Nat.toDigits 10 a.natAbs).map Char.toNat).toArray⟩ := PyProof.Rows.text_ofNat a.natAbs
  have hl := digits10_le (k := 18) (by omega) h
  unfold strP
  rw [len_tl, tl_append, e, List.length_append]
  have h1 : (tl (if a < 0 then ("-" : Str) else "+")).length = 1 := by split <;> decide +kernel
  have h2 : (tl (⟨((Nat.toDigits 10 a.natAbs).map Char.toNat).toArray⟩ : Str)).length = (Nat.toDigits 10 a.natAbs).length := by simp
  rw [h1, h2]
  omega
section
variable {X : Cx} {te : TE}
def tFmtP (te : TE) : TE := fun σ H Q => te σ H fun x H1 => ∃ i : Int, x = .int i ∧ i.natAbs < 10 ^ 18 ∧ Q (.str (strP i)) H1
theorem pe_fmtP {e : Expr} {p1 p2 pos : Pos} (he : PE X e te) : PE X (.FormattedValue e (-1) (some (.JoinedStr [.Constant (.str plusD) 0 p1] p2)) pos) (tFmtP te) := by
  refine ⟨fun pins s σ H Q I h => ?_⟩
  refine wpAny_FormattedValue_spec (thn (he.run pins s σ H _ I h) fun v s1 hv => ?_)
  obtain ⟨x, H1, I1, r1, i, rfl, hz, q⟩ := hv
  obtain ⟨t, rfl⟩ := r1
  refine wpAny_JoinedStr_one (thn ((pe_str (X := X) (x := plusD) (j := 0) (pos := p1)).run pins s1 σ H1 (fun y H2 => y = .str plusD ∧ H2 = H1) I1 ⟨rfl, rfl⟩) fun v2 s2 hv2 => ?_)
  obtain ⟨y, H2, I2, r2, rfl, rfl⟩ := hv2
  obtain ⟨t2, rfl⟩ := r2
  have hlen := strP_len hz
  rw [← plus_text] at hlen q
  refine ⟨plusD, t2, rfl, fmt_plus ?_ ?_ ⟨.str (intSpecText plusF i), H2, I2.tok _, ⟨_, rfl⟩, q⟩⟩
  · by_cases z : i.natAbs = 0
    · rw [z]; decide
    · have := (Nat.log2_lt z).mpr (Nat.lt_of_lt_of_le hz (show 10 ^ 18 ≤ 2 ^ 1920 from Nat.le_trans (m := 2 ^ 64) (by decide) (Nat.pow_le_pow_right (n := 2) (i := 64) (j := 1920) (by decide) (by decide))))
      exact this
  · rw [sizeLine_eq]; omega
end
section
variable {X : Cx} {te : TE} {σ : St} {H : Hp} {Q : VK}
def aFmtP (x : V) (H1 : Hp) (Q : VK) : Prop := ∃ i : Int, x = .int i ∧ i.natAbs < 10 ^ 18 ∧ Q (.str (strP i)) H1
theorem s_fmtP (k : te σ H fun x H1 => aFmtP x H1 Q) : tFmtP te σ H Q := k
theorem w_fmtP {i : Int} (h : i.natAbs < 1000000000000000000) (k : Q (.str (strP i)) H) : aFmtP (.int i) H Q := ⟨i, rfl, h, k⟩
end
/-! ### over the signs of a text -/
section
def aFStr (g : TG) (tb : TS) (D : Ends) (σ : St) (x : V) (H1 : Hp) : Prop := ∃ z, x = .str z ∧ aLoop (Its z) g tb D σ H1
variable {σ : St} {H : Hp} {D : Ends} {g : TG} {tb : TS} {te : TE}
theorem s_forS (k : te σ H fun x H1 => aFStr g tb D σ x H1) : tFor (iStr te) g tb D σ H := k
theorem w_forS {nx bk ct : St → Hp → Prop} {rt : VK} {z : Str} (Pv : Nat → St → Hp → Prop) (h0 : Pv 0 σ H)
    (hs : ∀ (i : Nat) (c : Nat) σ' H', (tl z)[i]? = some c → Pv i σ' H' → g (.str ⟨#[c]⟩) σ' H' fun σ2 H2 => tb ⟨Pv (i + 1), rt, nx, Pv (i + 1)⟩ σ2 H2) (hd : ∀ σ' H', Pv z.length σ' H' → nx σ' H') : aFStr g tb ⟨nx, rt, bk, ct⟩ σ (.str z) H :=
  ⟨z, rfl, for_it walk_str Pv h0 (fun _ _ _ _ _ => trivial) (fun i x σ' H1 H2 hi p y => by
    obtain ⟨rfl, c, hc, rfl⟩ := y
    exact hs i c σ' H2 (by rw [← hc]; simp) p) hd⟩
theorem w_notInC {c : Nat} {z : Str} {Q : VK} (k : Q (.bl (!decide (c ∈ tl z))) H) : rNotInS (.str ⟨#[c]⟩) (.str z) H Q := ⟨c, z, rfl, rfl, k⟩
theorem w_inST {x : Str} {us : List Str} {p : Addr} {Q : VK} {K : PySem.W.Frag} (hp : H p = some (.tup (us.map V.str))) (k : Q (.bl (decide (x ∈ us))) H) : rIn K false (.str x) (.ref p) H Q :=
  ⟨p, _, rfl, .inr (.inl (.inl hp)), rfl, flat_str us, by rw [inV_str]; exact k⟩
theorem w_notInST {x : Str} {us : List Str} {p : Addr} {Q : VK} {K : PySem.W.Frag} (hp : H p = some (.tup (us.map V.str))) (k : Q (.bl (!decide (x ∈ us))) H) : rIn K true (.str x) (.ref p) H Q :=
  ⟨p, _, rfl, .inr (.inl (.inl hp)), rfl, flat_str us, by rw [inV_str]; exact k⟩
end
/-! ### words of operations -/
/-- a number that can be a node -/
def nodeW (z : Str) : Bool := isNumW z && !decide (z = "0")
theorem strD_len {z : Str} (h : z ≠ "") : tl z ≠ [] := fun e => h (ext_tl (by rw [e]; rfl))
theorem digitsVal_pos : ∀ (l : List Nat) (a : Nat), 0 < a → 0 < l.foldl (fun a c => a * 10 + (c - 48)) a
  | [], a, h => h
  | c :: l, a, h => digitsVal_pos l (a * 10 + (c - 48)) (by omega)
/-- what the law asks of a number's signs -/
def okD (z : Str) : Prop := z ≠ "" ∧ z.length ≤ 9 ∧ (⟨#[z.cps.toList.getD 0 default]⟩ : Str) ≠ "0" ∧ ∀ c ∈ tl z, 48 ≤ c ∧ c ≤ 57
theorem one_sign {c d : Nat} : ((⟨#[c]⟩ : Str) = ⟨#[d]⟩) ↔ c = d := by
  constructor
  · intro h
    have := congrArg tl h
    simpa using this
  · rintro rfl; rfl
theorem zero_sign : ("0" : Str) = ⟨#[48]⟩ := by decide +kernel
theorem okD_node {z : Str} : okD z ↔ nodeW z = true := by
  unfold nodeW
  rw [Bool.and_eq_true, Bool.not_eq_true', decide_eq_false_iff_not]
  constructor
  · rintro ⟨h1, h2, h3, h4⟩
    have hne := strD_len h1
    have hz : z ≠ "0" := fun e => h3 (by rw [e]; decide +kernel)
    refine ⟨?_, hz⟩
    unfold isNumW
    rw [Bool.and_eq_true, Bool.and_eq_true, Bool.or_eq_true]
    have hmem : ∀ c ∈ z.cps, 48 ≤ c ∧ c ≤ 57 := fun c hc => h4 c (Array.mem_toList_iff.mpr hc)
    refine ⟨⟨?_, ?_⟩, .inr ?_⟩
    · unfold Txt.isascii
      rw [Array.all_eq_true_iff_forall_mem]
      intro c hc
      have := hmem c hc
      simp; omega
    · unfold Txt.isdigit
      rw [Bool.and_eq_true]
      refine ⟨?_, ?_⟩
      · have : 0 < z.length := by rw [len_tl]; exact List.length_pos_iff.mpr hne
        simpa using this
      · rw [Array.all_eq_true_iff_forall_mem]
        intro c hc
        have := hmem c hc
        exact digit_ascii c (by omega) this.1
    · rw [Bool.and_eq_true, Bool.not_eq_true', decide_eq_false_iff_not, decide_eq_true_iff]
      exact ⟨h3, by omega⟩
  · rintro ⟨h1, h2⟩
    obtain ⟨a1, a2, a3⟩ := isNumW_parts h1
    obtain ⟨d, ne⟩ := num_digits a1 a2
    refine ⟨fun e => ne (by rw [e]; decide +kernel), a3, ?_, d⟩
    unfold isNumW at h1
    rw [Bool.and_eq_true, Bool.or_eq_true, Bool.and_eq_true, Bool.and_eq_true] at h1
    rcases h1.2 with y | y
    · exact absurd (of_decide_eq_true y) h2
    · simpa using y.1
theorem node_text {z : Str} (h : nodeW z = true) : intText? z = some (numV z) ∧ 1 ≤ numV z ∧ z.length ≤ 9 := by
  obtain ⟨h1, h2, h3, h4⟩ := okD_node.mpr h
  have hne := strD_len h1
  have hn : isNumW z = true := by
    unfold nodeW at h
    rw [Bool.and_eq_true] at h
    exact h.1
  obtain ⟨e, _, _⟩ := num_text hn
  refine ⟨e, ?_, h2⟩
  have e2 := PySem.intText_digits (x := z) h4 hne (by omega)
  unfold numV
  rw [e2]
  show (1 : Int) ≤ ((NumText.digitsVal z.cps.toList : Nat) : Int)
  cases q : z.cps.toList with
  | nil => exact absurd q hne
  | cons c l =>
    rw [q] at h3
    have hc : c ≠ 48 := fun y => h3 (by rw [List.getD_cons_zero, y]; exact zero_sign.symm)
    have hd := h4 c (by rw [show tl z = c :: l from q]; exact List.mem_cons_self)
    have := digitsVal_pos l (0 * 10 + (c - 48)) (by omega)
    unfold NumText.digitsVal
    rw [List.foldl_cons]
    omega
theorem node_strI {i : Int} (h : 1 ≤ i) (h2 : i < 1000000000) : nodeW (strI i) = true := by
  unfold nodeW
  rw [Bool.and_eq_true, Bool.not_eq_true', decide_eq_false_iff_not]
  refine ⟨isNum_strI (by omega) h2, fun e => ?_⟩
  have := numV_strI (i := i) (by omega) h2
  rw [e, show numV "0" = 0 by decide +kernel] at this
  omega
/-- is a word an operation, and which -/
def opW (w : Str) : Bool := (decide (cutS w none (some 1) = ("-" : Str)) || decide (cutS w none (some 1) = ("+" : Str))) && nodeW (cutS w (some 1) none)
def opV (w : Str) : Int := if cutS w none (some 1) = ("-" : Str) then -numV (cutS w (some 1) none) else numV (cutS w (some 1) none)
theorem cut_cons {c : Nat} {l : List Nat} {w : Str} (h : tl w = c :: l) : cutS w none (some 1) = ⟨#[c]⟩ ∧ tl (cutS w (some 1) none) = l := by
  have hl : w.length = l.length + 1 := by rw [len_tl, h]; rfl
  have e1 : HT.sIx w.length 0 none = 0 := rfl
  have e2 : HT.sIx w.length w.length (some 1) = 1 := by
    unfold HT.sIx
    rw [hl]
    simp
  have e3 : HT.sIx w.length 0 (some 1) = 1 := by
    unfold HT.sIx
    rw [hl]
    simp
  have e4 : HT.sIx w.length w.length none = w.length := rfl
  have h' : w.cps.toList = c :: l := h
  refine ⟨ext_tl ?_, ?_⟩
  · unfold cutS
    rw [e1, e2]
    show ((List.take (1 - 0) (List.drop 0 w.cps.toList)).toArray).toList = [c]
    rw [h']; simp
  · unfold cutS
    rw [e3, e4, hl]
    show ((List.take (l.length + 1 - 1) (List.drop 1 w.cps.toList)).toArray).toList = l
    rw [h']; simp
theorem cut_nil {w : Str} (h : tl w = []) : cutS w none (some 1) = "" ∧ cutS w (some 1) none = "" := by
  obtain rfl : w = "" := ext_tl (by rw [h]; rfl)
  exact ⟨by decide +kernel, by decide +kernel⟩
theorem tl_strP (a : Int) : tl (strP a) = (if a < 0 then 45 else 43) :: tl (strI (a.natAbs : Int)) := by
  unfold strP
  rw [tl_append]
  by_cases c : a < 0
  · rw [if_pos c, if_pos c, show tl "-" = [45] by decide +kernel]; rfl
  · rw [if_neg c, if_neg c, show tl "+" = [43] by decide +kernel]; rfl
theorem op_strP {a : Int} (h : a ≠ 0) (h2 : a.natAbs < 1000000000) : opW (strP a) = true ∧ opV (strP a) = a := by
  obtain ⟨e1, e2⟩ := cut_cons (tl_strP a)
  have e3 : cutS (strP a) (some 1) none = strI (a.natAbs : Int) := ext_tl e2
  have hn := node_strI (i := (a.natAbs : Int)) (by omega) (by omega)
  have hv := numV_strI (i := (a.natAbs : Int)) (by omega) (by omega)
  unfold opW opV
  rw [e1, e3, hn, hv]
  by_cases c : a < 0
  · rw [if_pos c, show (⟨#[45]⟩ : Str) = "-" by decide +kernel]
    exact ⟨by simp, by rw [if_pos rfl]; omega⟩
  · rw [if_neg c, show (⟨#[43]⟩ : Str) = "+" by decide +kernel]
    exact ⟨by simp, by rw [if_neg (by decide +kernel)]; omega⟩
theorem strP_sp (a : Int) : 32 ∉ tl (strP a) := by
  rw [tl_strP]
  intro h
  rcases List.mem_cons.mp h with z | z
  · split at z <;> omega
  · exact no_sign (by omega) (by omega) z
theorem split_strP {us : List Int} (hne : us ≠ []) : Txt.split (Txt.join " " (us.map strP)) " " = us.map strP := by
  refine split_join (s := 32) (S := []) tl_sp k_sp (by simpa using hne) fun p hp => ?_
  obtain ⟨u, hu, rfl⟩ := List.mem_map.mp hp
  exact strP_sp u
def wordsOf (z : Str) : List Str := Txt.split z " "
/-! ### lengths of split and joined texts -/
theorem spl_sum (S : List Nat) : ∀ (l : List Nat) (k : Nat) (acc : List Nat), ((spl S k acc l).map (·.length)).sum + (spl S k acc l).length ≤ acc.length + l.length + 1
  | [], k, acc => by rw [spl_nil]; simp
  | c :: r, 0, acc => by
    have h1 := spl_sum S r (S.length - 1) []
    have h2 := spl_sum S r 0 (acc ++ [c])
    cases h : pre S (c :: r) with
    | true =>
      rw [spl_hit h]
      simp only [List.map_cons, List.sum_cons, List.length_cons, List.length_nil] at h1 ⊢
      omega
    | false =>
      rw [spl_miss h]
      simp only [List.length_append, List.length_cons, List.length_nil] at h2 ⊢
      omega
  | c :: r, k + 1, acc => by
    have h1 := spl_sum S r k acc
    show ((spl S k acc r).map (·.length)).sum + (spl S k acc r).length ≤ _
    simp only [List.length_cons]
    omega
def sumL (ws : List Str) : Nat := (ws.map (·.length)).sum
theorem sumL_tl (ws : List Str) : ((ws.map tl).map (·.length)).sum = sumL ws := by
  unfold sumL
  rw [List.map_map]; rfl
theorem words_sum (z : Str) : sumL (wordsOf z) + (wordsOf z).length ≤ z.length + 1 := by
  have e := split_spl z " " (by rw [tl_sp]; simp) (kind_ok k_sp)
  have := spl_sum (tl " ") (tl z) 0 []
  rw [← e, sumL_tl, List.length_map, List.length_nil, ← len_tl] at this
  unfold wordsOf
  omega
theorem join_sum (ws : List Str) : (Txt.join " " ws).length ≤ sumL ws + ws.length := by
  rw [len_tl, join_eq, tl_join, tl_sp]
  have h1 := joinL_len [32] (ws.map tl)
  rw [sumL_tl, List.length_map] at h1
  simp at h1
  exact h1
theorem sumL_set : ∀ (ws : List Str) (i : Nat) (w : Str), sumL (ws.set i w) ≤ sumL ws + w.length
  | [], i, w => by simp [sumL]
  | v :: ws, 0, w => by
    unfold sumL
    simp only [List.set_cons_zero, List.map_cons, List.sum_cons]
    omega
  | v :: ws, i + 1, w => by
    have := sumL_set ws i w
    unfold sumL at this ⊢
    simp only [List.set_cons_succ, List.map_cons, List.sum_cons]
    omega
theorem sumL_ins (ws : List Str) (i : Nat) (w : Str) : sumL (insAt ws i w) ≤ sumL ws + w.length ∧ (insAt ws i w).length = ws.length + 1 := by
  have e : sumL ws = sumL (ws.take i) + sumL (ws.drop i) := by
    conv => lhs; rw [← List.take_append_drop i ws]
    unfold sumL
    rw [List.map_append, List.sum_append]
  have el : ws.length = (ws.take i).length + (ws.drop i).length := by
    rw [← List.length_append, List.take_append_drop]
  unfold insAt
  refine ⟨?_, ?_⟩
  · rw [e]
    unfold sumL
    rw [List.map_append, List.map_append, List.sum_append, List.sum_append, List.map_cons, List.map_nil, List.sum_cons, List.sum_nil]
    omega
  · rw [List.length_append, List.length_append, el]
    simp only [List.length_cons, List.length_nil]
    omega
theorem w_ixS' {K : PySem.W.Frag} {H : Hp} {Q : VK} {a : Str} {i : Int} (hl : a.length ≤ 1000000) (h0 : 0 ≤ i) (h1 : i < (a.length : Int)) (k : ∀ c, Q (.str ⟨#[c]⟩) H) : rIx K (.str a) (.int i) H Q :=
  w_ixS (c := a.cps.toList.getD i.toNat default) (by rw [sizeLine_eq]; omega) h0 (by
    have : a.length = a.cps.toList.length := (Array.length_toList).symm
    rw [List.getD_eq_getElem?_getD, List.getElem?_eq_getElem (show i.toNat < a.cps.toList.length by omega)]; rfl) (k _)
theorem app_len (a b : Str) : (a ++ b).length = a.length + b.length := by rw [len_tl, tl_append, List.length_append, ← len_tl, ← len_tl]
theorem cutS_len (z : Str) (lo hi : Option Int) : (cutS z lo hi).length ≤ z.length := by
  unfold cutS
  show (List.toArray _).size ≤ z.cps.size
  rw [List.size_toArray, ← Array.length_toList]
  rw [List.length_take, List.length_drop]; omega
theorem lt_len {r : Int} {n m : Nat} (h : r < (n : Int)) (e : m = n) : r < (m : Int) := by rw [e]; exact h
end Lk
namespace Lk
open PySem PySem.Spec PyProof.Rows L2

/-! ### ==, str, len of own objects -/
theorem pass0 {X : Cx} : Passes (L2N.CX X.prog X.w) X E0 := fun pins σ H s e s' I c => L2N.passAt takes0 σ pins H s e s' I c
/-- the def runs at a place below -/
theorem run_below {X : Cx} {A : Around} {pins : List (Addr × Obj)} {σ : L2.St} {H : Hp} {s : Shared} {Q : VK} {k : Nat} {f : Addr} {ps : List Str} {sp : Sp} {us : List Value} {ws : List V} (G : FnA X.prog X.w X.K X.mg X.base k f ps sp) (hr : Room k A) (e0 : Env0 X.prog X.w X.K X.mg X.base A X.stack s H) (I : Inv X pins σ H s) (r : Vals ws us) (h : sp ws H Q E0) :
    wpAny (model X.prog X.w) A (call (.ref f) us) (EP X pins σ Q) X.xe s := by
  obtain ⟨fd, F, b⟩ := G
  have hl := F.len _ _ _ _ h
  refine wpAny_call (codeAny_mono (F.run A X.stack s H ⟨us, []⟩ us ws Q E0 hr e0 (by
    have := b s us I.kIn (by rw [List.append_nil, ← r.length]; exact hl)
    rwa [List.append_nil] at this) r h) fun r s' hq => ?_)
  cases r with
  | error e => exact pass0 pins σ H s e s' I hq
  | ok fl =>
    cases fl with
    | ret w => exact I.after hq
    | next => exact False.elim hq
    | brk => exact False.elim hq
    | cont => exact False.elim hq
/-- what may stand on the right -/
def Rgt (C : Addr) (y : V) (H : Hp) : Prop := (∃ b dy gs, y = .ref b ∧ H b = some (.ins C dy gs)) ∨ (∃ z, y = .str z) ∨ ∃ i, y = .int i
structure OwnC (K : PySem.W.Frag) (C : Addr) : Prop where
  ns : PySem.W.subIn K (.type "str") (.ref C) = some false
  ni : PySem.W.subIn K (.type "int") (.ref C) = some false
  i : PySem.W.isClsIn K C = true
  t : PySem.W.typeIn K (.ref C) = some (.type "type")
theorem kit_own {K : PySem.W.Frag} {C : Addr} (c : OwnC K C) {x : Value} {b : Bool} (s : PySem.W.subIn K x (.ref C) = some b) (hx : (x == Value.ref C) = false) : PySem.W.kitOne K x (.ref C) = some b := by
  have h2' : (PySem.W.clsIn K C).isSome = true := c.i
  have e2 : ((PySem.W.clsIn K C).isSome && PySem.W.typeIn K (.ref C) == some (.type "type")) = true := by
    rw [h2', c.t] <;> rfl
  unfold PySem.W.kitOne
  rw [if_neg (by rw [hx]; simp)]
  show (if ((PySem.W.clsIn K C).isSome && PySem.W.typeIn K (.ref C) == some (.type "type")) = true then PySem.W.subIn K x (.ref C) else none) = some b
  rw [if_pos e2]
  exact s
/-- isinstance(x, a class of one's own) -/
def rIsC2 (K : PySem.W.Frag) (C : Addr) : List V → Hp → VK → Prop := fun xs H Q => rIsC C xs H Q ∨ rIsi K xs H Q
theorem b_isC2 {X : Cx} {C : Addr} (c : C8.InsC X.K C) : CallR X (.builtin "isinstance") (rIsC2 X.K C) := (b_isC c).or call_isi
theorem w_isC2 {K : PySem.W.Frag} {C a dx : Addr} {fs : List (Str × V)} {H : Hp} {Q : VK} (hp : H a = some (.ins C dx fs)) (k : Q (.bl true) H) : rIsC2 K C [.ref a, .ref C] H Q := .inl (w_isC hp k)
theorem w_isC2s {K : PySem.W.Frag} {C : Addr} {z : Str} {H : Hp} {Q : VK} (c : OwnC K C) (k : Q (.bl false) H) : rIsC2 K C [.str z, .ref C] H Q := .inr ⟨_, _, _, _, false, rfl, .own C, .base (.str z), kit_own c c.ns rfl, k⟩
theorem w_isC2i {K : PySem.W.Frag} {C : Addr} {z : Int} {H : Hp} {Q : VK} (c : OwnC K C) (k : Q (.bl false) H) : rIsC2 K C [.int z, .ref C] H Q := .inr ⟨_, _, _, _, false, rfl, .own C, .base (.int z), kit_own c c.ni rfl, k⟩
def rEqO (C : Addr) (sp : Sp) : R2 := fun x y H Q => ∃ a dx fs, x = .ref a ∧ H a = some (.ins C dx fs) ∧ Rgt C y H ∧ sp [x, y] H Q E0
theorem w_eqO {C a dx : Addr} {fs : List (Str × V)} {sp : Sp} {y : V} {H : Hp} {Q : VK} (hp : H a = some (.ins C dx fs)) (r : Rgt C y H) (k : sp [.ref a, y] H Q E0) : rEqO C sp (.ref a) y H Q := ⟨a, dx, fs, rfl, hp, r, k⟩
section
variable {X : Cx} {C f : Addr} {k : Nat} {ps : List Str} {sp : Sp}
theorem op_eqO (G : FnA X.prog X.w X.K X.mg X.base k f ps sp) (hr : Room k X.A) (m : Meth X.K C "__eq__" f) (c : OwnC X.K C) : OpR X (compareOp .Eq) (rEqO C sp) := by
  intro pins s σ H x y v u Q I rx ry h
  obtain ⟨a, dx, fs, rfl, ha, hy, q⟩ := h
  cases (show v = Value.ref a from rx)
  obtain ⟨mA, J, _⟩ := ins_get I.hok ha
  obtain ⟨od, J, _⟩ := J.look
  obtain ⟨m0, hF⟩ := I.fr
  show wpAny (model X.prog X.w) X.A (richCompare .Eq (.ref a) u) (EP X pins σ Q) X.xe s
  have run : wpAny (model X.prog X.w) X.A (call (.ref f) [.ref a, u]) (PySem.W.CmpBack (EP X pins σ Q)) X.xe s :=
    wpAny_mono (run_below (us := [.ref a, u]) (ws := [.ref a, y]) G hr I.env0 I (.cons rfl (.cons ry .nil)) q) (fun w s' z => by
      obtain ⟨z', H', I', rz, qz⟩ := z
      exact SlX.cmpback rz ⟨z', H', I', rz, qz⟩) fun _ _ x => x
  rcases hy with ⟨b, dy, gs, rfl, hb⟩ | ⟨z, rfl⟩ | ⟨i, rfl⟩
  · cases (show u = Value.ref b from ry)
    obtain ⟨mB, J', _⟩ := ins_get I.hok hb
    obtain ⟨od', J', _⟩ := J'.look
    exact PySem.W.cmp_K (op := .Eq) (tb := .ref C) hr.units0 hF I.ok.mod.kin J J'.type (by simp [PySem.W.notFirst]) m.at_ m.fn run
  · obtain ⟨t, rfl⟩ := ry
    exact PySem.W.cmp_K (op := .Eq) (tb := .type "str") hr.units0 hF I.ok.mod.kin J .now (by simp [PySem.W.notFirst, c.ns]) m.at_ m.fn run
  · obtain ⟨t, rfl⟩ := ry
    exact PySem.W.cmp_K (op := .Eq) (tb := .type "int") hr.units0 hF I.ok.mod.kin J .now (by simp [PySem.W.notFirst, c.ni]) m.at_ m.fn run
def rStrO (C : Addr) (sp : Sp) : List V → Hp → VK → Prop := fun xs H Q => ∃ a dx fs, xs = [V.ref a] ∧ H a = some (.ins C dx fs) ∧ sp [.ref a] H (fun z H' => ∃ y, z = .str y ∧ Q (.str y) H') E0
theorem call_strO (G : FnA X.prog X.w X.K X.mg X.base k f ps sp) (hr : Room (k + 2) X.A) (m : Meth X.K C "__str__" f) : CallR X (.type "str") (rStrO C sp) := by
  intro pins s σ H xs us Q I r h
  obtain ⟨a, dx, fs, rfl, ha, q⟩ := h
  obtain ⟨u, rfl, ru⟩ := r.one
  cases (show u = Value.ref a from ru)
  obtain ⟨mA, J, _⟩ := ins_get I.hok ha
  obtain ⟨od, J, _⟩ := J.look
  have hr2 : Room k X.A.in1.in1 := (show Room (k + 1) X.A.in1 from Room.in1 hr).in1
  refine PySem.W.kso_call hr2.units0 I.kIn J m.at_ m.fn (wpAny_mono (run_below (us := [.ref a]) (ws := [.ref a]) G hr2 I.env0.in1.in1 I (.cons rfl .nil) q) (fun w s' z => ?_) fun _ _ x => x)
  obtain ⟨z', H', I', rz, y, ez, qz⟩ := z
  subst ez
  obtain ⟨t, rfl⟩ := rz
  exact ⟨.str y, H', I', ⟨t, rfl⟩, qz⟩
def rLenO (C : Addr) (sp : Sp) : List V → Hp → VK → Prop := fun xs H Q => ∃ a dx fs, xs = [V.ref a] ∧ H a = some (.ins C dx fs) ∧ sp [.ref a] H (fun z H' => ∃ i : Int, z = .int i ∧ 0 ≤ i ∧ i < 2 ^ 62 ∧ Q (.int i) H') E0
theorem call_lenO (G : FnA X.prog X.w X.K X.mg X.base k f ps sp) (hr : Room (k + 2) X.A) (m : Meth X.K C "__len__" f) : CallR X (.builtin "len") (rLenO C sp) := by
  intro pins s σ H xs us Q I r h
  obtain ⟨a, dx, fs, rfl, ha, q⟩ := h
  obtain ⟨u, rfl, ru⟩ := r.one
  cases (show u = Value.ref a from ru)
  obtain ⟨mA, J, _⟩ := ins_get I.hok ha
  obtain ⟨od, J, _⟩ := J.look
  have hr1 : Room (k + 1) X.A.in1 := Room.in1 hr
  refine Calls.call_function_entry kind_len plain_len entry_len (args_len1 _) ?_
  unfold Builtin.«len»
  refine wpAny_bind (m := oneArg "len" _) (wpAny_pure ?_)
  refine wpAny_bind (m := callSpecial? (.ref a) (Str.ofString "__len__")) (PySem.W.special_fn I.kIn J m.at_ (beq_iff_eq.mp m.fn) (wpAny_mono (run_below (us := [.ref a]) (ws := [.ref a]) G (hr1.mono (by omega)) I.env0.in1 I (.cons rfl .nil) q) (fun w s' z => ?_) fun _ _ x => x))
  obtain ⟨z', H', I', rz, i, ez, i0, i1, qz⟩ := z
  subst ez
  obtain ⟨t, rfl⟩ := rz
  refine wpAny_bind (wpAny_holding (wpAny_pure ?_))
  refine wpAny_bind (wpAny_letGo ?_)
  show wpAny _ _ (if i < 0 then _ else _) _ _ _
  rw [if_neg (by omega)]
  show wpAny _ _ (if i ≥ 2 ^ 63 then _ else _) _ _ _
  rw [if_neg (by omega)]
  exact wpAny_bind (wpAny_mkInt (wpAny_pure ⟨_, rfl, .int i, H', I'.tok _, ⟨_, rfl⟩, qz⟩))
end
theorem w_strO {C a dx : Addr} {fs : List (Str × V)} {sp : Sp} {H : Hp} {Q : VK} (hp : H a = some (.ins C dx fs)) (k : sp [.ref a] H (fun z H' => ∃ y, z = .str y ∧ Q (.str y) H') E0) : rStrO C sp [.ref a] H Q := ⟨a, dx, fs, rfl, hp, k⟩
theorem w_lenO {C a dx : Addr} {fs : List (Str × V)} {sp : Sp} {H : Hp} {Q : VK} (hp : H a = some (.ins C dx fs)) (k : sp [.ref a] H (fun z H' => ∃ i : Int, z = .int i ∧ 0 ≤ i ∧ i < 2 ^ 62 ∧ Q (.int i) H') E0) : rLenO C sp [.ref a] H Q := ⟨a, dx, fs, rfl, hp, k⟩
end Lk
namespace L2N
open PySem PySem.Spec PyProof.Rows L2
/-! ### several handlers, each with a name -/
abbrev HdA := Value × Option Nat × (Addr → Value → Option Addr → TS)
/-- a handler without a name -/
def wAz (K : PySem.W.Frag) (c : Value) (ts : Addr → Value → Option Addr → TS) (Wout : WX) (D : Ends) : WX := fun cls d σ H => ∃ b, PySem.W.exmOne K cls c = some b ∧ (b = true → ∀ a, H a = none → ts a cls d D σ H) ∧ (b = false → Wout cls d σ H)
def wManyA (K : PySem.W.Frag) (Wout : WX) (D : Ends) : List HdA → WX
  | [] => Wout
  | (c, some i, ts) :: r => wAs K c i ts (wManyA K Wout D r) D
  | (c, none, ts) :: r => wAz K c ts (wManyA K Wout D r) D
inductive HdsA (X : Cx) : List ExceptHandler → List HdA → Prop
  | nil : HdsA X [] []
  | cons {x n : Str} {c : Value} {i : Nat} {ts : Addr → Value → Option Addr → TS} {b₀ : Stmt} {suite : List Stmt} {np pos' : Pos} {hds : List ExceptHandler} {l : List HdA} (hi : X.N[i]? = some n) (hln : X.env.kindOf n = some .local) (hc : Names X x c)
      (hsu : ∀ (a : Addr) (oe : Obj) (cls : Value) (d : Option Addr) (pn : List (Addr × Obj)), Zn cls d oe → (∃ vs, oe.data = .fields vs) → PSs (X.suite a ((a, oe) :: pn)) (b₀ :: suite) (ts a cls d)) (r : HdsA X hds l) :
      HdsA X (.ExceptHandler (some (.Name x np)) (some n) (b₀ :: suite) pos' :: hds) ((c, some i, ts) :: l)
  | conz {x : Str} {c : Value} {ts : Addr → Value → Option Addr → TS} {b₀ : Stmt} {suite : List Stmt} {np pos' : Pos} {hds : List ExceptHandler} {l : List HdA} (hc : Names X x c)
      (hsu : ∀ (a : Addr) (oe : Obj) (cls : Value) (d : Option Addr) (pn : List (Addr × Obj)), Zn cls d oe → (∃ vs, oe.data = .fields vs) → PSs (X.suite a ((a, oe) :: pn)) (b₀ :: suite) (ts a cls d)) (r : HdsA X hds l) :
      HdsA X (.ExceptHandler (some (.Name x np)) none (b₀ :: suite) pos' :: hds) ((c, none, ts) :: l)
section
variable {X : Cx} {body : List Stmt} {h₀ : ExceptHandler} {hds : List ExceptHandler} {l : List HdA} {pos : Pos} {tb : WX → TS} {Wout : WX}
theorem ps_try_manyA (hs : X.stack = X.env :: X.outer) (hf : X.env.frame = some X.env.locals) (hN : X.N.Nodup) (tk : Takes X Wout)
    (hb : ∀ (W : WX) (pn : List (Addr × Obj)) (xe : Value → Shared → Prop), Takes (X.tr pn xe) W → PassesOwn (model X.prog X.w) X.A X.env xe → PSs (X.tr pn xe) body (tb W))
    (hh : HdsA X (h₀ :: hds) l) : PS X (.Try body (h₀ :: hds) [] [] pos) (fun D σ H => tb (wManyA X.K Wout D l) D σ H) := by
  refine ⟨fun pins s σ H D I h => ?_⟩
  have ok := I.ok
  have hfr : X.A.frames = some (X.env :: X.outer) := by rw [ok.frames, hs]
  refine wpAny_Try_except ?_
  refine wpAny_mono ((hb (wManyA X.K Wout D l) (X.pn ++ pins) (fun e s₁ => wpAny (model X.prog X.w) X.A (noteFrame e X.env) (fun _ s₂ => wpAny (model X.prog X.w) X.A (setFlight e none) (fun _ s₃ =>
    wpAny (model X.prog X.w) X.A (handleBy e X.env (h₀ :: hds)) (SP X pins D) X.xe s₃) X.xe s₂) X.xe s₁) (fun u s' xx => ?_) PassesOwn.looking).run [] s σ H D (I.toTry _) h) (fun f s1 hsp => ?_) (fun e s1 he => he)
  · -- what was raised
    obtain ⟨a, B, sI, pins', σ', H', cls, d, rfl, J', nb, up, sky, na, os, ag, w⟩ := xx
    have J : Inv X pins σ' H' sI := J'.ofTry ok
    have sky' : Sky B (X.env :: X.outer) a (Zn cls d) X.env.locals s'.heap := by rw [← hs]; exact sky
    show wpAny (model X.prog X.w) X.A (noteFrame (.ref a) X.env) _ _ _
    refine Sky.land Zn.steady hfr hf sky' fun h3 fl3 up3 => ?_
    have J3 : Inv X pins σ' H' { s' with heap := h3 } := J.landed nb fl3.1 (up.trans up3) os ag
    obtain ⟨oe3, vs3, he3, hz3, hd3⟩ := fl3.there
    have notFr : ∀ {h : Heap} {o : Obj} {vs : Array Value}, h.FunFrames B (X.env :: X.outer) → h.get? a = some o → o.data = .fields vs → a ∉ frs (X.env :: X.outer) := fun {h o vs} ff e dd hm => by
      obtain ⟨_, o', e', hnf⟩ := ff.mem hm
      rw [e] at e'; cases e'
      exact hnf _ dd
    have nfr := notFr fl3.2.2.1 he3 hd3
    have nL : a ≠ X.env.locals := fun z => nfr (List.mem_filterMap.mpr ⟨X.env, List.mem_cons_self, by rw [hf, z]⟩)
    have nF : a ∉ X.fs := fun hm => by
      obtain ⟨e, he, q⟩ := List.mem_filterMap.mp hm
      exact nfr (List.mem_filterMap.mpr ⟨e, List.mem_cons_of_mem _ he, q⟩)
    have S3 := J3.suite he3 hd3 na nL nF
    have go : ∀ {hds' : List ExceptHandler} {l' : List HdA}, HdsA X hds' l' → wManyA X.K Wout D l' cls d σ' H' →
        wpAny (model X.prog X.w) X.A (handleBy (.ref a) X.env hds') (SP X pins D) X.xe { s' with heap := h3 } := by
      intro hds' l' hk
      induction hk with
      | nil =>
        intro w
        refine wpAny_handleBy_nil ?_
        obtain ⟨k1, k2, k3, oe, vs, T, oT, ts', he, hz, hd, h1, hr⟩ := id fl3
        unfold PySem.passOn
        refine wpAny_bind (wpAny_field he hd h1 ?_)
        rw [if_neg (show ¬ ((Value.ref T == Value.none) = true) from by simp)]
        have fin : wpAny (model X.prog X.w) X.A (setFlight (.ref a) X.env.frame) (fun _ s4 => wpAny (model X.prog X.w) X.A (throw (.ref a) : Sem Flow) (SP X pins D) X.xe s4) X.xe { s' with heap := h3 } := by
          rw [hf]
          refine HandSPX.setFlight_upZ fl3 fun h4 hh4 up4 => wpAny_throw (tk _ _ ?_)
          exact ⟨a, B, sI, pins, σ', H', cls, d, rfl, J, nb, (up.trans up3).trans up4, .inr (.inr (by rw [hs]; exact hh4)), na, os, ag, w⟩
        first
          | exact wpAny_bind (wpAny_pure (wpAny_bind fin))
          | exact wpAny_bind fin
      | @cons x n c i ts b₀ suite np pos' hds2 l2 hi hln hc hsu r ih =>
        intro w
        have hloc : Loc X.env.scope n := .inl hln
        obtain ⟨b, hb1, hyes, hno⟩ := w
        refine wpAny_handleBy_cons (codeAny_handlers_test ?_) (by intro q; cases q)
        have LT : PySem.W.Looks (model X.prog X.w) h3 (typeOf (.ref a)) cls := fun A Q E s k q => wpAny_typeOf_ref (k _ _ he3) (by rw [hz3.1]; exact q)
        have LM := PySem.W.exm_one (M := model X.prog X.w) (J3.kIn) LT hb1
        have test : ∀ {Q : Value → Shared → Prop} {E : Value → Shared → Prop}, Q c { s' with heap := h3 } → wpAny (model X.prog X.w) (X.A.mark (some (.ref a))) (eval (.Name x np) X.env) Q E { s' with heap := h3 } := fun {Q E} q => by
          obtain ⟨hg, hdbg, hm | ⟨hm, hv, hnn⟩⟩ := hc
          · exact ld_glob (X := X.suite a ((a, oe3) :: (X.pn ++ pins))) S3 hg hm q hdbg
          · exact ld_blt (X := X.suite a ((a, oe3) :: (X.pn ++ pins))) S3 hg hm hv q hnn hdbg
        refine test (LM.here ?_)
        cases b with
        | true =>
          refine codeAny_handlers_suite_as ?_
          refine HandSPX.lands_againZ fl3 fun h4 fl4 up4 => ?_
          have J4 : Inv X pins σ' H' { s' with heap := h4 } := J.landed nb fl4.1 ((up.trans up3).trans up4) os ag
          obtain ⟨oe4, vs4, he4, hz4, hd4⟩ := fl4.there
          have S4 := J4.suite he4 hd4 na nL nF
          refine store_ok (X := X.suite a ((a, oe4) :: (X.pn ++ pins))) (v := .ref a) S4 hN hi hloc rfl (fun s5 S5 => ?_) (.inr hln)
          refine wpAny_mono ((hsu a oe4 cls d (X.pn ++ pins) hz4 ⟨_, hd4⟩).run [] s5 _ H' _ S5 (hyes rfl a na)) (fun f s6 hsp => ?_) (fun _ _ z => False.elim z)
          have end_ : ∀ {σ6 : L2.St} {H6 : Hp} {Q : Shared → Prop}, Inv (X.suite a ((a, oe4) :: (X.pn ++ pins))) [] σ6 H6 s6 → (∀ s7, Inv X pins (σ6.set i none) H6 s7 → Q s7) →
              wpAny (model X.prog X.w) X.A (do bindName X.env n .none; unbindBehindTheSuite X.env n pos') (fun _ s7 => Q s7) X.xe s6 := fun {σ6 H6 Q} S6 hq => gone_ok (S6.unsuite ok) hN hi hln hq
          cases f with
          | next =>
            obtain ⟨σ6, H6, S6, q6⟩ := hsp
            exact end_ S6 fun s7 J7 => ⟨_, _, J7, q6⟩
          | brk =>
            obtain ⟨σ6, H6, S6, q6⟩ := hsp
            exact end_ S6 fun s7 J7 => ⟨_, _, J7, q6⟩
          | cont =>
            obtain ⟨σ6, H6, S6, q6⟩ := hsp
            exact end_ S6 fun s7 J7 => ⟨_, _, J7, q6⟩
          | ret u =>
            obtain ⟨v6, σ6, H6, S6, r6, q6⟩ := hsp
            exact end_ S6 fun s7 J7 => ⟨_, _, _, J7, r6, q6⟩
        | false =>
          show wpAny _ X.A (handleBy (.ref a) X.env hds2) _ _ _
          exact ih (hno rfl)
      | @conz x c ts b₀ suite np pos' hds2 l2 hc hsu r ih =>
        intro w
        obtain ⟨b, hb1, hyes, hno⟩ := w
        refine wpAny_handleBy_cons (codeAny_handlers_test ?_) (by intro q; cases q)
        have LT : PySem.W.Looks (model X.prog X.w) h3 (typeOf (.ref a)) cls := fun A Q E s k q => wpAny_typeOf_ref (k _ _ he3) (by rw [hz3.1]; exact q)
        have LM := PySem.W.exm_one (M := model X.prog X.w) (J3.kIn) LT hb1
        have test : ∀ {Q : Value → Shared → Prop} {E : Value → Shared → Prop}, Q c { s' with heap := h3 } → wpAny (model X.prog X.w) (X.A.mark (some (.ref a))) (eval (.Name x np) X.env) Q E { s' with heap := h3 } := fun {Q E} q => by
          obtain ⟨hg, hdbg, hm | ⟨hm, hv, hnn⟩⟩ := hc
          · exact ld_glob (X := X.suite a ((a, oe3) :: (X.pn ++ pins))) S3 hg hm q hdbg
          · exact ld_blt (X := X.suite a ((a, oe3) :: (X.pn ++ pins))) S3 hg hm hv q hnn hdbg
        refine test (LM.here ?_)
        cases b with
        | true =>
          refine codeAny_handlers_suite ?_
          refine HandSPX.lands_againZ fl3 fun h4 fl4 up4 => ?_
          have J4 : Inv X pins σ' H' { s' with heap := h4 } := J.landed nb fl4.1 ((up.trans up3).trans up4) os ag
          obtain ⟨oe4, vs4, he4, hz4, hd4⟩ := fl4.there
          have S4 := J4.suite he4 hd4 na nL nF
          refine wpAny_mono ((hsu a oe4 cls d (X.pn ++ pins) hz4 ⟨_, hd4⟩).run [] _ _ H' _ S4 (hyes rfl a na)) (fun f s6 hsp => ?_) (fun _ _ z => False.elim z)
          cases f with
          | next =>
            obtain ⟨σ6, H6, S6, q6⟩ := hsp
            exact ⟨_, _, S6.unsuite ok, q6⟩
          | brk =>
            obtain ⟨σ6, H6, S6, q6⟩ := hsp
            exact ⟨_, _, S6.unsuite ok, q6⟩
          | cont =>
            obtain ⟨σ6, H6, S6, q6⟩ := hsp
            exact ⟨_, _, S6.unsuite ok, q6⟩
          | ret u =>
            obtain ⟨v6, σ6, H6, S6, r6, q6⟩ := hsp
            exact ⟨_, _, _, S6.unsuite ok, r6, q6⟩
        | false =>
          show wpAny _ X.A (handleBy (.ref a) X.env hds2) _ _ _
          exact ih (hno rfl)
    exact go hh w
  · cases f with
    | next =>
      obtain ⟨σ', H', J', q⟩ := hsp
      exact wpAny_execs_nil ⟨σ', H', J'.ofTry ok, q⟩
    | brk =>
      obtain ⟨σ', H', J', q⟩ := hsp
      exact ⟨σ', H', J'.ofTry ok, q⟩
    | cont =>
      obtain ⟨σ', H', J', q⟩ := hsp
      exact ⟨σ', H', J'.ofTry ok, q⟩
    | ret u =>
      obtain ⟨v, σ', H', J', r, q⟩ := hsp
      exact ⟨v, σ', H', J'.ofTry ok, r, q⟩
end
end L2N
namespace Lk
open PySem PySem.Spec PyProof.Rows L2
section
variable {K : PySem.W.Frag} {c cls : Value} {d : Option Addr} {σ : L2.St} {H : Hp} {ts : Addr → Value → Option Addr → TS} {Wout : WX} {D : Ends}
theorem w_azT (e : PySem.W.exmOne K cls c = some true) (k : ∀ a, H a = none → ts a cls d D σ H) : L2N.wAz K c ts Wout D cls d σ H := ⟨true, e, fun _ => k, fun q => Bool.noConfusion q⟩
theorem w_azF (e : PySem.W.exmOne K cls c = some false) (k : Wout cls d σ H) : L2N.wAz K c ts Wout D cls d σ H := ⟨false, e, fun q => Bool.noConfusion q, fun _ => k⟩
end
end Lk
namespace Lk
open PySem PySem.Spec PyProof.Rows L2

/-! ### generators that raise nothing -/
/-- the generator def at f keeps sp -/
def GnA (P : Program) (w : World) (K : PySem.W.Frag) (mg : Str → Option Value) (base : Heap) (k : Nat) (f : Addr) (ps : List Str) (sp : SpG) : Prop :=
  ∃ fd, GFn P w K mg base k f fd ps sp ∧ Binds K fd ps []
section
variable {P : Program} {w : World} {K : PySem.W.Frag} {mg : Str → Option Value} {base : Heap}
theorem GnA.of {x qual : Str} {st : Stmt} {f : Addr} {fd : FuncData} {N ps : List Str} {k : Nat} {sp : SpG} (F : Fun K x qual st f fd) (S : GScope N ps (defScope st)) (b : Binds K fd ps []) (len : ∀ vs H Q E, sp vs H Q E → vs.length = ps.length)
    (hbody : ∀ (cdv : Value) (A : Around) (outer : List Env) (s : Shared) (H : Hp) (vs : List V) (Q : List V → Hp → Prop) (E : XK) (pn : List (Addr × Obj)), Room k (A.deeper (envOfC qual (defScope st) s.heap.objs.size f cdv)) →
      PassesOwn (model P w) (gcxOf P w K mg base N qual (defScope st) f cdv A outer s H E pn).A (gcxOf P w K mg base N qual (defScope st) f cdv A outer s H E pn).env (gcxOf P w K mg base N qual (defScope st) f cdv A outer s H E pn).xe → sp vs H Q E →
      ∃ t, GSs (gcxOf P w K mg base N qual (defScope st) f cdv A outer s H E pn) (defBody st) t ∧ t { nx := fun ys _ H' => Q ys H', rt := fun ys v H' => v = .non ∧ Q ys H' } [] (start N vs) H) : GnA P w K mg base (k + 1) f ps sp := by
  obtain ⟨oc, od, kV, doc, pm, an, cdv, ct, osl, rfl, lk, hcd⟩ := F.ex
  exact ⟨_, gfn_of lk hcd S len fun A outer s H vs Q E pn hr hsp => hbody cdv A outer s H vs Q E pn hr owns_gcx hsp, b⟩
end
section
variable {X : Cx} {k : Nat} {f C : Addr} {ps : List Str} {sp : SpG} {m nm : Str} {p pos pos' apos : Pos} {o : Expr} {ta : TE}
/-- list(o.m()), m a generator -/
def tListM (C : Addr) (m : Str) (sp : SpG) (ta : TE) : TE := tListG (tMethG C m sp [] E0 ta tNil)
theorem pass_0 {X : Cx} : Passes (L2.CX X.prog X.w) X E0 := fun pins σ H s e s' I c => by
  obtain ⟨a, B, H', cls, d, z1, fl, z2, ub, z3, z4, z5, z6, z7⟩ := c
theorem noStop0 {K : PySem.W.Frag} : NoStop K E0 := fun _ _ _ h => h.elim
theorem pe_listM {pl : Sem Bool} (G : GnA X.prog X.w X.K X.mg X.base k f ps sp) (hr : Room (k + 3) X.A) (c : Cls X.K C) (hm : Meth X.K C m f) (hmg : X.mg "list" = none) (he : PE X o ta) (hg : Gl X "list" := by rfl)
    (ht : MTree X pl o m [] pos' apos := by rfl) : PE X (.Call (.Name "list" p) [.Call (.Attribute o m apos) [] [] pos'] [] pos) (tListM C m sp ta) := by
  obtain ⟨fd, F, b⟩ := G
  exact pe_listG (pgen_meth0 (pl := pl) (dvs := []) (ds := []) he c hm F (hr.mono (by omega)) b .nil ht) pass_0 noStop0 hr hg hmg rfl
end
section
variable {σ : L2.St} {H : Hp} {Q : VK} {C : Addr} {m : Str} {sp : SpG} {te : TE} {D : GEnds} {ys : List V} {t u : TGn} {ts : TS}
def aListM (C : Addr) (m : Str) (sp : SpG) (Q : VK) : VK := fun x H1 => ∃ a dx fs, x = .ref a ∧ H1 a = some (.ins C dx fs) ∧ fs.lookup m = none ∧ sp [.ref a] H1 (fun out H2 => ∀ p, H2 p = none → Q (.ref p) (upd H2 p (.lst out))) E0
theorem s_listM (k : te σ H (aListM C m sp Q)) : tListM C m sp te σ H Q := by
  have e : aListM C m sp Q = fun x H1 => ∃ a dx fs, x = .ref a ∧ H1 a = some (.ins C dx fs) ∧ fs.lookup m = none ∧ tNil σ H1 fun vs H2 => sp (x :: (vs ++ [])) H2 (fun out H2 => ∀ p, H2 p = none → Q (.ref p) (upd H2 p (.lst out))) E0 := by
    funext x H1
    refine propext ⟨?_, ?_⟩
    · rintro ⟨a, dx, fs, rfl, h1, h2, h3⟩
      exact ⟨a, dx, fs, rfl, h1, h2, h3⟩
    · rintro ⟨a, dx, fs, rfl, h1, h2, h3⟩
      exact ⟨a, dx, fs, rfl, h1, h2, h3⟩
  rw [e] at k
  exact k
theorem w_listM {a dx : Addr} {fs : List (Str × V)} (hp : H a = some (.ins C dx fs)) (l : fs.lookup m = none) (k : sp [.ref a] H (fun out H2 => ∀ p, H2 p = none → Q (.ref p) (upd H2 p (.lst out))) E0) : aListM C m sp Q (.ref a) H := ⟨a, dx, fs, rfl, hp, l, k⟩
/-! the generator's body -/
theorem g_plain (k : ts ⟨D.nx ys, D.rt ys, D.bk ys, D.ct ys⟩ σ H) : tPlain ts D ys σ H := k
theorem g_0 (k : D.nx ys σ H) : tG0 D ys σ H := k
theorem g_then (k : t { D with nx := fun ys' σ' H' => u D ys' σ' H' } ys σ H) : tGThen t u D ys σ H := k
theorem g_yield (h : ys.length < sizeLine) (k : te σ H fun x H1 => D.nx (ys ++ [x]) σ H1) : tGYield te D ys σ H := ⟨h, k⟩
end
/-! ### x in o, o of an own class -/
def rInO (C : Addr) (sp : Sp) : R2 := fun x y H Q => ∃ a dx fs, y = .ref a ∧ H a = some (.ins C dx fs) ∧ sp [y, x] H (fun z H' => ∃ b, z = .bl b ∧ Q (.bl b) H') E0
theorem w_inO {C a dx : Addr} {fs : List (Str × V)} {sp : Sp} {x : V} {H : Hp} {Q : VK} (hp : H a = some (.ins C dx fs)) (k : sp [.ref a, x] H (fun z H' => ∃ b, z = .bl b ∧ Q (.bl b) H') E0) : rInO C sp x (.ref a) H Q := ⟨a, dx, fs, rfl, hp, k⟩
section
variable {X : Cx} {C f : Addr} {k : Nat} {ps : List Str} {sp : Sp}
theorem op_inO (G : FnA X.prog X.w X.K X.mg X.base k f ps sp) (hr : Room k X.A) (m : Meth X.K C "__contains__" f) : OpR X (compareOp .In) (rInO C sp) := by
  intro pins s σ H x y v u Q I rx ry h
  obtain ⟨a, dx, fs, rfl, ha, q⟩ := h
  cases (show u = Value.ref a from ry)
  obtain ⟨mA, J, _⟩ := ins_get I.hok ha
  obtain ⟨od, J, _⟩ := J.look
  obtain ⟨m0, hF⟩ := I.fr
  refine PySem.W.in_K hF I.ok.mod.kin J m.at_ m.fn ?_
  refine wpAny_mono (run_below (us := [.ref a, v]) (ws := [.ref a, x]) G hr I.env0 I (.cons rfl (.cons rx .nil)) q) (fun r s' z => ?_) fun _ _ z => z
  obtain ⟨z', H', I', rz, b, ez, qz⟩ := z
  subst ez
  cases (show r = Value.bool b from rz)
  exact wpAny_truthy_bool ⟨.bl b, H', I', rfl, qz⟩
end
end Lk
namespace Lk
open PySem PySem.Spec PyProof.Rows L2 NdefX

/-! ### methods that ask super() first: y = super().m(..); .. -/
/-- the method named nm at f, of the class at C, its statement st -/
structure SupFn (prog : Program) (K : PySem.W.Frag) (C f : Addr) (nm qual : Str) (st : Stmt) (ps : List Str) : Prop where
  fn : ∃ (oc : Value) (od : Option Addr) (kV doc pm : Value) (an : Option Addr) (cda : Addr) (ct : Value) (cc : Addr) (osl : Array (Option Value)) (ccl : Value) (cdd : Option Addr) (cvs : Array Value) (ccs : Array (Option Value)) (file : Str) (tf : Tok) (cl : Value) (cld : Option Addr) (csl : Array (Option Value)) (ar : Arg),
    K.lookup f = some ⟨oc, od, .func (PySem.W.ksFn nm qual (defArgs st) (defBody st) (defScope st) .none kV doc pm an (.ref cda) ct cc), osl⟩ ∧ PySem.W.codeIn K (.ref cda) qual = true ∧ K.lookup cda = some ⟨ccl, cdd, .fields cvs, ccs⟩ ∧ cvs[2]? = some (.str file tf) ∧ ((prog.main.file : Str) == file) = true ∧
    K.lookup cc = some ⟨cl, cld, .cell (some (.ref C)), csl⟩ ∧ ((defArgs st).posonlyargs ++ (defArgs st).args).head? = some ar ∧ ar.arg = "self" ∧
    ∀ us : List Value, us.length = ps.length → bindArgs (PySem.W.ksFn nm qual (defArgs st) (defBody st) (defScope st) .none kV doc pm an (.ref cda) ct cc) ⟨us, []⟩ = pure (ps.zip us)
  cls : ∃ cd, PySem.W.clsIn K C = some cd
  gs : PySem.W.nsIn K mainGlobals "super" = some none
  op : PySem.W.nsIn K cStatics "thirdparty.any" = some none
  top : (prog.main.scope.names.lookup ("super" : Str)).isSome = false
  ks : (defScope st).names.lookup ("super" : Str) = some .globalImplicit
/-- what super() of C finds for an instance of D -/
structure SupAt (K : PySem.W.Frag) (C D : Addr) (m : Str) (g : Addr) : Prop where
  mro : PySem.W.mroIn K D (.ref C) = some true
  su : PySem.W.ks_superIn K D C m = some (some (.ref g))
  ty : PySem.W.typeIn K (.ref g) = some (.type "function")
  fi : PySem.W.fnIn K g = true
/-- the body: y = super().m(e, ..), then rest -/
def SupBody (m y : Str) (body : List Stmt) (e e2 : Expr) (rest : List Stmt) : Prop :=
  ∃ p0 p1 p2 p4 p5 p6, body = .Assign [.Name y p5] (.Call (.Attribute (.Call (.Name "super" p0) [] [] p1) m p2) [e, e2] [] p4) p6 :: rest ∧ (p2.endLine == p4.line) = true
theorem toR {P : Program} {w : World} {K : PySem.W.Frag} {mg : Str → Option Value} {base : Heap} {CX : CXT} {k : Nat} {f : Addr} {fd : FuncData} {ps : List Str} {sp : Sp} (F : FnOk P w K mg base CX k f fd ps sp) (b : Binds K fd ps []) : FnR P w K mg base CX k f sp := fun A outer s H us vs Q E hr e0 r h => by
  have KX : K.In s.heap := e0.mod.kin.keeps fun b o e => (e0.bs b o e).1
  have hl : us.length = ps.length := by rw [← r.length]; exact F.len _ _ _ _ h
  have z := b s us KX (by rw [List.append_nil]; exact hl)
  rw [List.append_nil] at z
  exact F.run A outer s H ⟨us, []⟩ us vs Q E hr e0 z r h
theorem mcall2 {o e e2 : Expr} {name : Str} {apos pos : Pos} {env : Env} (h : (apos.endLine == pos.line) = true) (he : starEach [e, e2] env = [(false, eval e env), (false, eval e2 env)] := by rfl) :
    eval (.Call (.Attribute o name apos) [e, e2] [] pos) env = (do
      let ov ← attributeBase o name env (eval o env)
      standAt apos.atName
      let (f, first) ← holding [ov] (getMethod ov name (do return (← importBound o env).getD true))
      callWith pos f first (backTo pos (starEach [e, e2] env)) []) := by
  rw [arm_eval_Call, he]
  unfold methodCall methodCallPos calleeOf
  rw [h]
  rfl
/-- the context of such a method's body -/
abbrev ncxS (P : Program) (w : World) (K : PySem.W.Frag) (mg : Str → Option Value) (base : Heap) (N : List Str) (nm qual : Str) (st : Stmt) (f : Addr) (cl : List (Str × Addr)) (cda : Addr) (A : Around) (outer : List Env) (s : Shared) (H : Hp) (E : XK) : Cx :=
  ncx (L2N.CX P w) P w K mg base N ⟨nm, qual, defArgs st, defBody st, defScope st, cl, cda⟩ f A outer s H E
theorem FnA.ofSup {P : Program} {w : World} {K : PySem.W.Frag} {mg : Str → Option Value} {base : Heap} {C f : Addr} {nm qual m y : Str} {st : Stmt} {N ps : List Str} {k i : Nat} {sp : Sp} {e e2 : Expr} {rest : List Stmt}
    (F : SupFn P K C f nm qual st ps) (S : NScope N ps ["__class__"] (defScope st)) (hps : ps[0]? = some ("self" : Str)) (len : ∀ vs H Q E, sp vs H Q E → vs.length = ps.length)
    (B : SupBody m y (defBody st) e e2 rest) (hy : N[i]? = some y) (hyl : (defScope st).names.lookup y = some .local) (hm : (m == ("__class__" : Str)) = false)
    (hbody : ∀ (cl : List (Str × Addr)) (cda : Addr) (A : Around) (outer : List Env) (s : Shared) (H : Hp) (vs : List V) (Q : VK) (E : XK), Room k (ncxS P w K mg base N nm qual st f cl cda A outer s H E).A → L2N.Takes (ncxS P w K mg base N nm qual st f cl cda A outer s H E) (fun cls d _ H' => E cls d H') → PassesOwn (model P w) (ncxS P w K mg base N nm qual st f cl cda A outer s H E).A (ncxS P w K mg base N nm qual st f cl cda A outer s H E).env (ncxS P w K mg base N nm qual st f cl cda A outer s H E).xe → sp vs H Q E →
      starEach [e, e2] (ncxS P w K mg base N nm qual st f cl cda A outer s H E).env = [(false, eval e (ncxS P w K mg base N nm qual st f cl cda A outer s H E).env), (false, eval e2 (ncxS P w K mg base N nm qual st f cl cda A outer s H E).env)] ∧ starEach [e2] (ncxS P w K mg base N nm qual st f cl cda A outer s H E).env = [(false, eval e2 (ncxS P w K mg base N nm qual st f cl cda A outer s H E).env)] ∧
      ∃ (a D dx g : Addr) (fs : List (Str × V)) (spg : Sp) (psg : List Str) (tA : TA), vs[0]? = some (.ref a) ∧ H a = some (.ins D dx fs) ∧ SupAt K C D m g ∧ FnA P w K mg base k g psg spg ∧ PA (ncxS P w K mg base N nm qual st f cl cda A outer s H E) [e, e2] tA ∧
        tA (startF N vs [none]) H fun us H1 => spg (.ref a :: us) H1 (fun v H2 => ∃ t, PSs (ncxS P w K mg base N nm qual st f cl cda A outer s H E) rest t ∧ t { nx := fun _ H' => Q .non H', rt := Q } ((startF N vs [none]).set i (some v)) H2) E) :
    FnA P w K mg base (k + 1) f ps sp := by
  obtain ⟨oc, od, kV, doc, pm, an, cda, ct, cc, osl, ccl, cdd, cvs, ccs, file, tf, cl, cld, csl, ar, lk, hcd, hcda, hc2, hfile, hcell, har, hself, hbind⟩ := F.fn
  obtain ⟨p0, p1, p2, p4, p5, p6, hB, hpl⟩ := B
  refine ⟨_, ⟨len, fun A outer s H args us vs Q E hr e0 hb r hsp => ?_⟩, .all fun us hl => hbind us hl⟩
  have hl := len _ _ _ _ hsp
  have KX : K.In s.heap := e0.mod.kin.keeps fun b o e => (e0.bs b o e).1
  have lim : s.heap.NoLimit := e0.mod.nolimit.keeps fun b o e => (e0.bs b o e).1
  refine ks_codeAny_call_defAt (fd := PySem.W.ksFn nm qual (defArgs st) (defBody st) (defScope st) .none kV doc pm an (.ref cda) ct cc) (body := defBody st) (binds := ps.zip us) hr.depth (KX _ _ lk) rfl lim (PySem.W.codeRec_of KX hcd) rfl hb S.nocell (fun y hy => S.par _ (List.of_mem_zip (show (y.1, y.2) ∈ _ from hy)).1) (fun h₀ hns hk₀ => ?_) S.co S.gen S.kind
  have C0 : CellsAt [("__class__", cc)] ["__class__"] [none] s.heap H := by
    have hcb := e0.mod.kin _ _ hcell
    have hb2 := e0.bs _ _ hcb
    have cv : ∀ (y : Str) (c : Addr), ([("__class__", cc)] : List (Str × Addr)).lookup y = some c → y = "__class__" ∧ c = cc := fun y c e => by
      by_cases z : y = "__class__"
      · subst z
        simp [List.lookup] at e
        exact ⟨rfl, e.symm⟩
      · rw [List.lookup_cons, show (y == ("__class__" : Str)) = false by simpa using z] at e
        simp at e
    refine ⟨rfl, fun y c e => ?_, fun x y c e1 e2 => (cv x c e1).1.trans (cv y c e2).1.symm, fun j y hj => ?_⟩
    · obtain ⟨_, rfl⟩ := cv y c e
      exact ⟨hb2.2, _, _, hb2.1, rfl⟩
    · cases j with
      | zero =>
        cases hj
        exact ⟨cc, rfl, fun v hv => by simp at hv⟩
      | succ j => simp at hj
  have I : Inv (ncx (L2N.CX P w) P w K mg base N ⟨nm, qual, defArgs st, defBody st, defScope st, [("__class__", cc)], cda⟩ f A outer s H E) [] (startF N vs [none]) H { s with heap := h₀, toks := s.toks + (ps.zip us).length } := inv_startN S hr.hd e0 hl r C0 hns hk₀
  have tk : L2N.Takes (ncx (L2N.CX P w) P w K mg base N ⟨nm, qual, defArgs st, defBody st, defScope st, [("__class__", cc)], cda⟩ f A outer s H E) (fun cls d _ H' => E cls d H') := L2N.takes_of rfl rfl rfl rfl
  have hr1 : Room k (ncx (L2N.CX P w) P w K mg base N ⟨nm, qual, defArgs st, defBody st, defScope st, [("__class__", cc)], cda⟩ f A outer s H E).A := hr.deeper _
  obtain ⟨he, he2, a, D, dx, g, fs, spg, psg, tA, hva, ha, SA, ⟨fdg, FG, bG⟩, hA, hq⟩ := hbody [("__class__", cc)] cda A outer s H vs Q E hr1 tk (passes_of rfl) hsp
  have hu0 : us[0]? = some (.ref a) := by
    obtain ⟨u, hu, rv⟩ := r.get hva
    rw [hu]
    exact congrArg some rv
  have hbody2 : execs (defBody st) (envF ⟨nm, qual, defArgs st, defBody st, defScope st, [("__class__", cc)], cda⟩ f s.heap.objs.size) = execs (.Assign [.Name y p5] (.Call (.Attribute (.Call (.Name "super" p0) [] [] p1) m p2) [e, e2] [] p4) p6 :: rest) (envF ⟨nm, qual, defArgs st, defBody st, defScope st, [("__class__", cc)], cda⟩ f s.heap.objs.size) := by rw [hB]
  show PySem.wpAt (model P w) _ (.func (defBody st) (envF ⟨nm, qual, defArgs st, defBody st, defScope st, [("__class__", cc)], cda⟩ f s.heap.objs.size)) (execs (defBody st) (envF ⟨nm, qual, defArgs st, defBody st, defScope st, [("__class__", cc)], cda⟩ f s.heap.objs.size)) _ _ _
  rw [hbody2]
  have hk : (defScope st).kind = .function := S.kind
  have hkc : (defScope st).names.lookup ("__class__" : Str) = some .free := S.frk _ (by simp)
  have hpself : ("self" : Str) ∈ ps := List.mem_of_getElem? hps
  have ndP : ps.Nodup := by
    have q := S.nd.sublist (List.take_sublist (ps.length + (["__class__"] : List Str).length) N)
    rw [S.pre] at q
    exact (List.nodup_append.mp q).1
  have nself : (ps.zip us).reverse.lookup ("self" : Str) = some (.ref a) := zip_look ndP hps hu0
  obtain ⟨cdC, hcC⟩ := F.cls
  obtain ⟨oD, hD1, hD2⟩ : ∃ oD, K.lookup C = some oD ∧ oD.data = .cls cdC := by
    unfold PySem.W.clsIn at hcC
    split at hcC
    · rename_i c d cd' sl ho
      cases hcC
      exact ⟨_, ho, rfl⟩
    · cases hcC
  obtain ⟨mb, hb1, hb2⟩ := e0.mod.blt
  obtain ⟨mA, J, _⟩ := ins_get I.hok ha
  obtain ⟨odx, J, _⟩ := J.look
  refine ks_wpAt_execs_cons (ks_wpAt_Assign_Name (ks_wpAt_MethodCall ?_ (mcall2 hpl he)) rfl)
  refine ks_wpAt_super_base (env := envF ⟨nm, qual, defArgs st, defBody st, defScope st, [("__class__", cc)], cda⟩ f s.heap.objs.size) F.ks hkc hm rfl (I.kIn _ _ lk) rfl har rfl (I.kIn _ _ hcda) rfl hc2 hfile F.top ?_
  refine PySem.W.ks_loadName_global hk F.ks (PySem.Calls.loadGlobal_builtin (env := envF ⟨nm, qual, defArgs st, defBody st, defScope st, [("__class__", cc)], cda⟩ f s.heap.objs.size) (e0.mod.glob.keeps I.bk) (PySem.W.mg_none_of e0.mod.kin e0.mod.glob F.gs) (hb1.keeps I.bk) ((hb2 "super" (by decide)).trans (by decide +kernel)) ⟨rfl, ?_⟩)
  refine wpAny_loadName_free hk hkc rfl ⟨_, I.kIn _ _ hcell, rfl⟩ ?_
  refine wpAny_loadName_local hk (by rw [hself]; exact S.par _ hpself) hns (by rw [hself]; exact nself) ?_
  refine ks_wpAny_isType_cls (I.kIn _ _ hD1) hD2 ⟨rfl, ?_⟩
  refine ks_wpAny_call_super (I.kIn _ _ hD1) hD2 J.at_ J.cls (fun c e => ?_) (PySem.W.looks_mroIn I.kIn SA.mro) (fun h' e k' => ?_)
  · have := J.no
    unfold PySem.W.notCls at this
    rw [e] at this
    exact Bool.noConfusion this
  have I2 := I.kept (t' := s.toks + (ps.zip us).length) k'
  obtain ⟨mA2, J2, _⟩ := ins_get I2.hok ha
  obtain ⟨odx2, J2, _⟩ := J2.look
  have X2 : K.In h' := I2.kIn
  have hm2 := SA.su
  cases hcD : PySem.W.clsIn K D with
  | none => unfold PySem.W.ks_superIn at hm2; rw [hcD] at hm2; cases hm2
  | some cd =>
    unfold PySem.W.ks_superIn at hm2
    rw [hcD] at hm2
    obtain ⟨of, hof, hofc⟩ : ∃ of, h'.get? g = some of ∧ of.cls = .type "function" := by
      have ht' : (K.lookup g).map (·.cls) = some (.type "function") := SA.ty
      cases z : K.lookup g with
      | none => rw [z] at ht'; cases ht'
      | some of => rw [z] at ht'; exact ⟨of, X2 _ _ z, Option.some.inj ht'⟩
    refine ks_wpAny_getMethod_super e (PySem.W.looks_opaque X2 F.op) (l₀ := cd.mro) ?_ rfl X2 hm2 hof hofc (PySem.W.ks_ne X2 J2 hcD) hm ?_
    · exact fun A Q E s k q => wpAny_bind ((PySem.W.looks_clsIn X2 hcD) A _ E s k (wpAny_pure q))
    have I3 := ClX.met_new (g := g) (C := a) I2
    refine ClX.callwith_cm I3 (ClX.base_none I2 (Nat.le_refl _)) SA.fi (thn (hA.run p4 _ _ _ H _ I3 hq) fun us' s3 ⟨vs', H2, I4, rv, q2⟩ => ⟨⟨ClX.pin_at I4, I4.kIn⟩, ?_⟩) (by rw [he, he2]) (by rw [he2]; rfl)
    refine thn (ClX.run_cm (CX := L2N.CX P w) (toR FG bG) hr1 (fun pins σ H s e s' I c => L2N.passAt tk σ pins H s e s' I c) I4 rv q2) fun v s4 ⟨v', H4, I5, rv', t, ht, hq4⟩ => ?_
    refine store_ok I5 S.nd hy (.inl hyl) rv' (fun s5 I6 => ?_) (Or.inr hyl)
    refine PySem.wpAt_of_wpAny ?_
    refine wpAny_mono (ht.run [] s5 _ H4 _ I6 hq4) (fun fl s' hs => ?_) fun e s' hs => hs
    have fin : ∀ {σ' : L2.St} {H' : Hp} {v : V} {u : Value}, Inv (ncx (L2N.CX P w) P w K mg base N ⟨nm, qual, defArgs st, defBody st, defScope st, [("__class__", cc)], cda⟩ f A outer s H E) [] σ' H' s' → RelV v u → Q v H' → CE outer P w H s Q u s' :=
      fun {σ' H' v u} J rv q => ⟨v, H', J.os, J.bare, J.base, J.hok, rv, q⟩
    cases fl with
    | ret u =>
      obtain ⟨v, σ', H', J, rv, q⟩ := hs
      exact fin J rv q
    | next =>
      obtain ⟨σ', H', J, q⟩ := hs
      exact fin (v := V.non) (u := Value.none) J rfl q
    | brk =>
      obtain ⟨_, _, _, q⟩ := hs
      exact False.elim q
    | cont =>
      obtain ⟨_, _, _, q⟩ := hs
      exact False.elim q
/-! ### o.m(..) where o is of one of several classes -/
/-- a class, its method, what that keeps -/
structure DM where
  D : Addr
  f : Addr
  ps : List Str
  sp : Sp
def DMOk (P : Program) (w : World) (K : PySem.W.Frag) (mg : Str → Option Value) (base : Heap) (k : Nat) (m : Str) (d : DM) : Prop := Cls K d.D ∧ Meth K d.D m d.f ∧ FnA P w K mg base k d.f d.ps d.sp
theorem FnA.mono {P : Program} {w : World} {K : PySem.W.Frag} {mg : Str → Option Value} {base : Heap} {j k : Nat} {f : Addr} {ps : List Str} {sp : Sp} (G : FnA P w K mg base j f ps sp) (h : j ≤ k) : FnA P w K mg base k f ps sp := by
  obtain ⟨fd, F, b⟩ := G
  exact ⟨fd, ⟨F.len, fun A outer s H args us vs Q E hr => F.run A outer s H args us vs Q E (hr.mono h)⟩, b⟩
def tMethD (ds : List DM) (m : Str) (E : L2.St → XK) (ta : TE) (t : TA) : TE := fun σ H Q => ta σ H fun x H1 => ∃ d ∈ ds, ∃ a dx fs, x = .ref a ∧ H1 a = some (.ins d.D dx fs) ∧ fs.lookup m = none ∧ t σ H1 fun vs H2 => d.sp (x :: vs) H2 Q (E σ)
section
variable {X : Cx} {k : Nat} {W : WX} {m : Str} {pos apos : Pos} {e o : Expr} {es : List Expr} {ta : TE} {t : TA} {ds : List DM}
theorem pe_methD {pl : Sem Bool} (G : ∀ d ∈ ds, DMOk X.prog X.w X.K X.mg X.base k m d) (hr : Room k X.A) (tk : L2N.Takes X W) (he : PE X o ta) (ha : PA X (e :: es) t)
    (hst : starEach (e :: es) X.env = (false, eval e X.env) :: starEach es X.env := by rfl) (hpl : (backTo pos (starEach es X.env)).any (·.1) = false := by rfl) (ht : MTree X pl o m (e :: es) pos apos := by rfl) :
    PE X (.Call (.Attribute o m apos) (e :: es) [] pos) (tMethD ds m (WE W) ta t) := by
  refine ⟨fun pins s σ H Q I h => ?_⟩
  refine PySem.W.methodCall_KW (pl := pl) (thn (he.run pins s σ H _ I h) fun u s1 ⟨x, H1, I1, rx, d, hd, a, dx, fs, ex, ea, l, q⟩ => ?_) ht
  obtain ⟨c, hm, fd, F, b⟩ := G d hd
  subst ex
  obtain rfl : u = Value.ref a := rx
  refine getmeth_ok I1 ea c hm l ?_
  refine PySem.W.callWith_K (first := [.ref a]) (h₀ := X.base) I.ok.mod.kin hm.kp (thn (ha.run pos pins s1 σ H1 _ I1 q) fun us s2 ⟨vs, H2, I2, r, q2⟩ => ⟨I2.kIn, ?_⟩) hst hpl
  exact run_fnS (E := WE W) (us := .ref a :: us) (vs := .ref a :: vs) F hr b (L2N.passAt tk σ) I2 (.cons rfl r) q2
def aMethD (ds : List DM) (m : Str) (k : Sp → V → Hp → Prop) : VK := fun x H1 => ∃ d ∈ ds, ∃ a dx fs, x = .ref a ∧ H1 a = some (.ins d.D dx fs) ∧ fs.lookup m = none ∧ k d.sp x H1
theorem s_methD {σ : L2.St} {H : Hp} {Q : VK} {E : L2.St → XK} (k : ta σ H (aMethD ds m fun sp x H1 => t σ H1 fun vs H2 => sp (x :: vs) H2 Q (E σ))) : tMethD ds m E ta t σ H Q := k
theorem w_methD {H : Hp} {k : Sp → V → Hp → Prop} {a dx : Addr} {fs : List (Str × V)} (d : DM) (hd : d ∈ ds) (hp : H a = some (.ins d.D dx fs)) (l : fs.lookup m = none) (q : k d.sp (.ref a) H) : aMethD ds m k (.ref a) H := ⟨d, hd, a, dx, fs, rfl, hp, l, q⟩
end
/-! ### C() of a class that has no __init__ -/
structure Mk0 (K : PySem.W.Frag) (C : Addr) : Prop where
  makes : PySem.W.makesIn K C = true
  init : PySem.W.findIn K (.ref C) "__init__" = some (some (.builtin "object.__init__"))
  kp : PySem.W.keepIn K (.ref C) = true
def tMake0 (C : Addr) : TE := fun _ H Q => ∀ x dx, H x = none → H dx = none → dx ≠ x → Q (.ref x) (upd (upd H dx (.own x)) x (.ins C dx []))
section
variable {X : Cx} {C : Addr} {x : Str} {p pos : Pos}
theorem pe_make0c (M : Mk0 X.K C) (hm : X.mg x = some (.ref C)) (hg : Gl X x := by rfl) (hdb : (x == ("__debug__" : Str)) = false := by decide) : PE X (.Call (.Name x p) [] [] pos) (tMake0 C) := by
  refine ⟨fun pins s σ H Q I h => ?_⟩
  refine wpAny_Call_Name_kw (ld_glob I hg hm ?_ hdb)
  have hq := h (s.heap.objs.size + 1) s.heap.objs.size (I.hok.fresh (Nat.le_succ _)) (I.hok.fresh (Nat.le_refl _)) (Nat.ne_of_lt (Nat.lt_succ_self _))
  have I2 := Inv.made (C := C) I
  have Y := PySem.W.makes_of (M := model X.prog X.w) I.kIn M.makes
  refine PySem.W.callWith_K0 (first := []) I.kIn M.kp (wpAny_call (make_map0 I.kIn M.makes M.init (fun self => PySem.W.Looks.of_pure (PySem.W.oi_bind self)) ?_))
  have gx : ((s.heap.push PySem.W.emptyDict).push (PySem.W.instObj C s.heap.objs.size)).get? (s.heap.objs.size + 1) = some (PySem.W.instObj C s.heap.objs.size) := by heap_get
  have t1 : PySem.W.Looks (model X.prog X.w) ((s.heap.push PySem.W.emptyDict).push (PySem.W.instObj C s.heap.objs.size)) (typeOf (.ref (s.heap.objs.size + 1))) (.ref C) := (PySem.W.Looks.ld gx).andThen .now
  have t2 : PySem.W.Looks (model X.prog X.w) ((s.heap.push PySem.W.emptyDict).push (PySem.W.instObj C s.heap.objs.size)) (isInstance (.ref (s.heap.objs.size + 1)) (.type "object")) true := t1.andThen (Y.top.keeps fun b o e => Heap.get?_push_of_some _ (Heap.get?_push_of_some _ e))
  refine PySem.codeAny_call_builtin PySem.W.oi_plain PySem.W.entry_oi (@PySem.W.check_slot (model X.prog X.w) _ _ _ "object.__init__" "object" "__init__" (.ref (s.heap.objs.size + 1)) [] [] _ PySem.W.oi_kind PySem.W.oi_split t2 (PySem.W.oi_args (.ref (s.heap.objs.size + 1))) ?_)
  rw [PySem.W.oi_run]
  exact wpAny_pure (And.intro rfl ⟨.ref (s.heap.objs.size + 1), _, I2, rfl, hq⟩)
end
/-! ### defs with keyword-only parameters -/
structure KwOk (K : PySem.W.Frag) (fd : FuncData) (ps : List Str) (n : Nat) (ks : List Str) (dvs : List V) : Prop where
  kb : KBn K fd ps n ks (fun us ws => us ++ ws) (fun vs zs => vs ++ zs)
  bd : ∃ ds, Vals dvs ds ∧ Binds K fd ps ds
def FnK (P : Program) (w : World) (K : PySem.W.Frag) (mg : Str → Option Value) (base : Heap) (k : Nat) (f : Addr) (ps : List Str) (sp : Sp) (n : Nat) (ks : List Str) (dvs : List V) : Prop :=
  ∃ fd, FnOk P w K mg base (L2N.CX P w) k f fd ps sp ∧ KwOk K fd ps n ks dvs
theorem FnK.of {P : Program} {w : World} {K : PySem.W.Frag} {mg : Str → Option Value} {base : Heap} {x qual : Str} {st : Stmt} {f : Addr} {fd : FuncData} {N ps ks : List Str} {dvs : List V} {kws : List (Str × V)} {n k : Nat} {sp : Sp}
    (F : FunD K x qual (defArgs st) (defBody st) (defScope st) [] kws f fd) (S : FnScope N ps (defScope st)) (b : KwOk K fd ps n ks dvs) (len : ∀ vs H Q E, sp vs H Q E → vs.length = ps.length)
    (hbody : ∀ (cdv : Value) (A : Around) (outer : List Env) (s : Shared) (H : Hp) (vs : List V) (Q : VK) (E : XK), Room k (A.deeper (envOfC qual (defScope st) s.heap.objs.size f cdv)) → L2N.Takes (cxOf (L2N.CX P w) P w K mg base N qual (defScope st) f cdv A outer s H E) (fun cls d _ H' => E cls d H') →
      PassesOwn (model P w) (cxOf (L2N.CX P w) P w K mg base N qual (defScope st) f cdv A outer s H E).A (cxOf (L2N.CX P w) P w K mg base N qual (defScope st) f cdv A outer s H E).env (cxOf (L2N.CX P w) P w K mg base N qual (defScope st) f cdv A outer s H E).xe → sp vs H Q E →
      ∃ t, PSs (cxOf (L2N.CX P w) P w K mg base N qual (defScope st) f cdv A outer s H E) (defBody st) t ∧ t { nx := fun _ H' => Q .non H', rt := Q } (start N vs) H) : FnK P w K mg base (k + 1) f ps sp n ks dvs :=
  ⟨fd, F.ok S len fun cdv A outer s H vs Q E hr hsp => hbody cdv A outer s H vs Q E hr (L2N.takes_of rfl rfl rfl rfl) (passes_of rfl) hsp, b⟩
def tCallK (n m : Nat) (sp : Sp) (E : L2.St → XK) (t tk : TA) : TE := fun σ H Q => t σ H fun vs H1 => tk σ H1 fun zs H2 => vs.length = n ∧ zs.length = m ∧ sp (vs ++ zs) H2 Q (E σ)
section
variable {X : Cx} {k n : Nat} {f : Addr} {ps ks : List Str} {sp : Sp} {W : WX} {x : Str} {p pos : Pos} {e : Expr} {es : List Expr} {kws : List Keyword} {t tk : TA} {dvs : List V}
/-- f(e, .., k = v) -/
theorem pe_callK (G : FnK X.prog X.w X.K X.mg X.base k f ps sp n ks dvs) (hr : Room k X.A) (hm : Nm X.K X.mg x f) (tk' : L2N.Takes X W) (ha : PA X (e :: es) t) (hkw : PK X kws tk) (hg : Gl X x := by rfl)
    (hall : (backToKw pos (keywordEach kws X.env)).all (·.1.isSome) = true := by rfl) (hks : (backToKw pos (keywordEach kws X.env)).filterMap (·.1) = ks := by rfl) (hdb : (x == ("__debug__" : Str)) = false := by decide) (he : starEach (e :: es) X.env = (false, eval e X.env) :: starEach es X.env := by rfl)
    (hpl : ((backTo pos (starEach (e :: es) X.env)).any (·.1) || (backToKw pos (keywordEach kws X.env)).any (·.1.isNone)) = false := by rfl) :
    PE X (.Call (.Name x p) (e :: es) kws pos) (tCallK n ks.length sp (WE W) t tk) := by
  obtain ⟨fd, F, hb, _⟩ := G
  refine ⟨fun pins s σ H Q I h => ?_⟩
  refine wpAny_Call_Name_kw (ld_glob I hg hm.m ?_ hdb)
  refine PySem.W.callWith_KW (h₀ := X.base) I.ok.mod.kin hm.k hall (thn (ha.run pos pins s σ H _ I h) fun us s1 ⟨vs, H1, I1, r, q⟩ => ?_) hpl he
  refine thn (hkw.run pos pins s1 σ H1 _ I1 q) fun ws s2 ⟨zs, H2, I2, rz, l1, l2, q2⟩ => ⟨I2.kIn, ?_⟩
  rw [hks]
  have r2 := hb.rel r rz
  refine wpAny_call (codeAny_mono (F.run X.A X.stack s2 H2 ⟨us, ks.zip ws⟩ (us ++ ws) (vs ++ zs) Q (WE W σ) hr I2.env0 (hb.to s2 us ws I2.kIn (r.length.symm.trans l1) (rz.length.symm.trans l2)) r2 q2) fun r s' hq => ?_)
  cases r with
  | error e => exact L2N.passAt tk' σ pins H2 s2 e s' I2 hq
  | ok fl =>
    cases fl with
    | ret u => exact I2.after hq
    | next => exact False.elim hq
    | brk => exact False.elim hq
    | cont => exact False.elim hq
/-- f(e, ..): the keywords' defaults -/
theorem pe_callKd (G : FnK X.prog X.w X.K X.mg X.base k f ps sp n ks dvs) (hr : Room k X.A) (hm : Nm X.K X.mg x f) (tk' : L2N.Takes X W) (ha : PA X (e :: es) t) (hg : Gl X x := by rfl)
    (hdb : (x == ("__debug__" : Str)) = false := by decide) (he : starEach (e :: es) X.env = (false, eval e X.env) :: starEach es X.env := by rfl) (hpl : (backTo pos (starEach es X.env)).any (·.1) = false := by rfl) :
    PE X (.Call (.Name x p) (e :: es) [] pos) (tCallSD sp dvs (WE W) t) := by
  obtain ⟨fd, F, _, ds, hd, hb⟩ := G
  exact pe_callSD F hr hg hm.m hm.k hb hd (fun σ => L2N.passAt tk' σ) ha hdb he hpl
end
section
variable {σ : L2.St} {H : Hp} {Q : VK} {n m : Nat} {sp : Sp} {E : L2.St → XK} {t tk : TA} {dvs : List V}
theorem s_callK (k : t σ H fun vs H1 => tk σ H1 fun zs H2 => vs.length = n ∧ zs.length = m ∧ sp (vs ++ zs) H2 Q (E σ)) : tCallK n m sp E t tk σ H Q := k
theorem s_callKd (k : t σ H fun vs H1 => sp (vs ++ dvs) H1 Q (E σ)) : tCallSD sp dvs E t σ H Q := k
theorem s_make0 {C : Addr} (k : ∀ x dx, H x = none → H dx = none → dx ≠ x → Q (.ref x) (upd (upd H dx (.own x)) x (.ins C dx []))) : tMake0 C σ H Q := k
end
theorem kwOk_of {K : PySem.W.Frag} {x qual : Str} {st : Stmt} {f : Addr} {fd : FuncData} {ps : List Str} {n : Nat} {kws : List (Str × V)} (F : FunD K x qual (defArgs st) (defBody st) (defScope st) [] kws f fd) (hk : kws ≠ []) (hn : n + kws.length = ps.length)
    (h0 : ∀ (D : Addr) (doc pm : Value) (an : Option Addr) (cdv ct : Value) (us ks : List Value), us.length = n → ks.length = kws.length → KwChain D ((kws.map (·.1)).zip ks) (bindArgs (PySem.W.fnOf x qual (defArgs st) (defBody st) (defScope st) .none (.ref D) doc pm an cdv ct) ⟨us, []⟩) (ps.zip (us ++ ks)))
    (h1 : ∀ (D : Addr) (doc pm : Value) (an : Option Addr) (cdv ct : Value) (us ws : List Value), us.length = n → ws.length = kws.length → bindArgs (PySem.W.fnOf x qual (defArgs st) (defBody st) (defScope st) .none (.ref D) doc pm an cdv ct) ⟨us, (kws.map (·.1)).zip ws⟩ = pure (ps.zip (us ++ ws))) :
    KwOk K fd ps n (kws.map (·.1)) (kws.map (·.2)) := by
  refine ⟨?_, F.binds0 n hk hn h0⟩
  obtain ⟨oc, od, dV, kV, doc, pm, an, cdv, ct, osl, rfl, lk, hcd, hD, hK⟩ := F.ex
  rcases hD with ⟨_, rfl⟩ | ⟨e, _⟩
  · rcases hK with e | ⟨D, rfl, hq⟩
    · exact absurd e hk
    · exact ⟨fun s us ws X l1 l2 => .of_eq (h1 D doc pm an cdv ct us ws l1 (by rw [l2, List.length_map])), fun r1 r2 => r1.append r2⟩
  · exact absurd rfl e
theorem sup_mk {prog : Program} {K : PySem.W.Frag} {C f : Addr} {nm qual : Str} {st : Stmt} {ps : List Str} {oc : Value} {od : Option Addr} {kV doc pm : Value} {an : Option Addr} {cda : Addr} {ct : Value} {cc : Addr} {osl : Array (Option Value)} {ccl : Value} {cdd : Option Addr} {cvs : Array Value} {ccs : Array (Option Value)} {file : Str} {tf : Tok} {cl : Value} {cld : Option Addr} {csl : Array (Option Value)} {ar : Arg}
    (l : K.lookup f = some ⟨oc, od, .func (PySem.W.ksFn nm qual (defArgs st) (defBody st) (defScope st) .none kV doc pm an (.ref cda) ct cc), osl⟩) (c : PySem.W.codeIn K (.ref cda) qual = true) (l2 : K.lookup cda = some ⟨ccl, cdd, .fields cvs, ccs⟩) (l3 : K.lookup cc = some ⟨cl, cld, .cell (some (.ref C)), csl⟩)
    (ic : PySem.W.isClsIn K C = true) (gs : PySem.W.nsIn K mainGlobals "super" = some none) (op : PySem.W.nsIn K cStatics "thirdparty.any" = some none)
    (v2 : cvs[2]? = some (.str file tf)) (fil : ((prog.main.file : Str) == file) = true) (hd : ((defArgs st).posonlyargs ++ (defArgs st).args).head? = some ar) (har : ar.arg = "self") (s0 : (prog.main.scope.names.lookup ("super" : Str)).isSome = false) (s1 : (defScope st).names.lookup ("super" : Str) = some .globalImplicit)
    (ba : ∀ us : List Value, us.length = ps.length → bindArgs (PySem.W.ksFn nm qual (defArgs st) (defBody st) (defScope st) .none kV doc pm an (.ref cda) ct cc) ⟨us, []⟩ = pure (ps.zip us)) : SupFn prog K C f nm qual st ps :=
  ⟨⟨oc, od, kV, doc, pm, an, cda, ct, cc, osl, ccl, cdd, cvs, ccs, file, tf, cl, cld, csl, ar, l, c, l2, v2, fil, l3, hd, har, ba⟩, Option.isSome_iff_exists.mp ic, gs, op, s0, s1⟩
/-! ### members of a written tuple -/
theorem w_inK {K : PySem.W.Frag} {x : Str} {us : List Str} {p : Addr} {H : Hp} {Q : VK} (hp : SqT K H p (us.map V.str)) (k : Q (.bl (decide (x ∈ us))) H) : rIn K false (.str x) (.ref p) H Q :=
  ⟨p, _, rfl, .inr hp, rfl, flat_str us, by rw [inV_str]; exact k⟩
theorem w_notInK {K : PySem.W.Frag} {x : Str} {us : List Str} {p : Addr} {H : Hp} {Q : VK} (hp : SqT K H p (us.map V.str)) (k : Q (.bl (!decide (x ∈ us))) H) : rIn K true (.str x) (.ref p) H Q :=
  ⟨p, _, rfl, .inr hp, rfl, flat_str us, by rw [inV_str]; exact k⟩
/-! ### f() -/
section
variable {X : Cx} {k : Nat} {f : Addr} {ps : List Str} {sp : Sp} {W : WX} {x : Str} {p pos : Pos}
theorem pe_callA0 (G : FnA X.prog X.w X.K X.mg X.base k f ps sp) (hr : Room k X.A) (hm : Nm X.K X.mg x f) (tk : L2N.Takes X W) (hg : Gl X x := by rfl) (hdb : (x == ("__debug__" : Str)) = false := by decide) :
    PE X (.Call (.Name x p) [] [] pos) (tCallS sp (WE W) tNil) := by
  obtain ⟨fd, F, b⟩ := G
  refine ⟨fun pins s σ H Q I h => ?_⟩
  refine wpAny_Call_Name_kw (ld_glob I hg hm.m ?_ hdb)
  exact PySem.W.callWith_K0 I.kIn hm.k (run_fnS (E := WE W) (us := []) (vs := []) F hr b (L2N.passAt tk σ) I .nil h)
end
end Lk
/-! a def that is called in a suite with the caught exception among its arguments -/
namespace Lk
open PySem PySem.Spec PyProof.Rows L2
abbrev SpX := Addr → Value → Option Addr → Sp
structure FnX (P : Program) (w : World) (K : PySem.W.Frag) (mg : Str → Option Value) (base : Heap) (CX : CXT) (k : Nat) (f : Addr) (fd : FuncData) (ps : List Str) (sp : SpX) : Prop where
  len : ∀ a cls d vs H Q E, sp a cls d vs H Q E → vs.length = ps.length
  run : ∀ (A : Around) (outer : List Env) (s : Shared) (H : Hp) (args : Args) (us : List Value) (vs : List V) (Q : VK) (E : XK) (a : Addr) (oe : Obj) (cls : Value) (d : Option Addr), L2H.RoomH k A → L2H.Hot1 A (a, oe) → L2H.PinOk outer H s (a, oe) → Zc cls d oe → (∃ vs, oe.data = .fields vs) →
    Env0 P w K mg base A outer s H → BindsTo s fd args (ps.zip us) → Vals vs us → sp a cls d vs H Q E → codeAny (model P w) A (.call (.ref f) args) (CR CX outer P w H s Q E) s
def FnXA (P : Program) (w : World) (K : PySem.W.Frag) (mg : Str → Option Value) (base : Heap) (k : Nat) (f : Addr) (ps : List Str) (sp : SpX) : Prop :=
  ∃ fd, FnX P w K mg base (L2N.CX P w) k f fd ps sp ∧ Binds K fd ps []
theorem fn_ofX {CX : CXT} {P : Program} {w : World} {K : PySem.W.Frag} {mg : Str → Option Value} {base : Heap} {k : Nat} {f : Addr} {name qual : Str} {params : Arguments} {body : List Stmt} {scope : Scope} {dV kV doc pm cdv ct oc : Value} {an od : Option Addr}
    {osl : Array (Option Value)} {N ps : List Str} {sp : SpX} (lk : K.lookup f = some ⟨oc, od, .func (PySem.W.fnOf name qual params body scope dV kV doc pm an cdv ct), osl⟩) (hcd : PySem.W.codeIn K cdv qual = true) (S : FnScope N ps scope)
    (len : ∀ a cls d vs H Q E, sp a cls d vs H Q E → vs.length = ps.length)
    (hbody : ∀ (A : Around) (outer : List Env) (s : Shared) (H : Hp) (vs : List V) (Q : VK) (E : XK) (a : Addr) (oe : Obj) (cls : Value) (d : Option Addr), L2H.Hot1 A (a, oe) → Zc cls d oe → (∃ vs, oe.data = .fields vs) → L2H.RoomH k (A.deeper (envOfC qual scope s.heap.objs.size f cdv)) → sp a cls d vs H Q E →
      ∃ t, PSs (L2H.cxH CX P w K mg base N qual scope f cdv A outer s H E (a, oe)) body t ∧ t { nx := fun _ H' => Q .non H', rt := Q } (L2.start N vs) H) :
    FnX P w K mg base CX (k + 1) f (PySem.W.fnOf name qual params body scope dV kV doc pm an cdv ct) ps sp := by
  refine ⟨len, fun A outer s H args us vs Q E a oe cls d hr hot hpin hzc hfl e0 hb r hsp => ?_⟩
  have hl := len _ _ _ _ _ _ _ hsp
  have KX : K.In s.heap := e0.mod.kin.keeps fun b o e => (e0.bs b o e).1
  have lim : s.heap.NoLimit := e0.mod.nolimit.keeps fun b o e => (e0.bs b o e).1
  have hkind : ∀ y ∈ ps.zip us, scope.names.lookup y.1 = some .local ∨ (scope.names.lookup y.1 = some .cell ∧ ((cellsFrom (s.heap.objs.size + 1) scope.names []).lookup y.1).isSome = true) := fun ⟨n, v⟩ hy => by
    rcases S.par n (List.of_mem_zip hy).1 with q | q
    · exact .inl q
    · exact .inr ⟨q, PySem.W.cellsFrom_some _ _ _ (.inl q)⟩
  refine codeAny_call_function hr.depth (KX _ _ lk) rfl S.co S.gen rfl (PySem.W.codeRec_of KX hcd) (hb _ _ _ _ ?_)
  refine wpAny_newFunctionEnv_cells S.kind hkind fun env he s1 x => ?_
  subst he
  refine ⟨lim.keeps x.toInCall.keep, codeAny_func ?_⟩
  obtain ⟨t, ht, hq⟩ := hbody A outer s H vs Q E a oe cls d hot hzc hfl (hr.deeper _) hsp
  have I : Inv (L2H.cxH CX P w K mg base N qual scope f cdv A outer s H E (a, oe)) [] (L2.start N vs) H s1 := L2H.inv_startH S hpin e0 hl r x
  refine wpAny_mono (ht.run [] s1 (L2.start N vs) H _ I hq) (fun fl s' hs => ?_) fun e s' hs => hs
  have fin : ∀ {σ' : L2.St} {H' : Hp} {v : V} {u : Value}, Inv (L2H.cxH CX P w K mg base N qual scope f cdv A outer s H E (a, oe)) [] σ' H' s' → RelV v u → Q v H' → CE outer P w H s Q u s' :=
    fun {σ' H' v u} J rv q => ⟨v, H', J.os, J.bare, J.base, J.hok, rv, q⟩
  cases fl with
  | ret u =>
    obtain ⟨v, σ', H', J, rv, q⟩ := hs
    exact fin J rv q
  | next =>
    obtain ⟨σ', H', J, q⟩ := hs
    exact fin (v := V.non) (u := Value.none) J rfl q
  | brk =>
    obtain ⟨_, _, _, q⟩ := hs
    exact False.elim q
  | cont =>
    obtain ⟨_, _, _, q⟩ := hs
    exact False.elim q
theorem FnXA.of {P : Program} {w : World} {K : PySem.W.Frag} {mg : Str → Option Value} {base : Heap} {x qual : Str} {st : Stmt} {f : Addr} {fd : FuncData} {N ps : List Str} {k : Nat} {sp : SpX} (F : Fun K x qual st f fd) (S : FnScope N ps (defScope st)) (b : Binds K fd ps []) (len : ∀ a cls d vs H Q E, sp a cls d vs H Q E → vs.length = ps.length)
    (hbody : ∀ (cdv : Value) (A : Around) (outer : List Env) (s : Shared) (H : Hp) (vs : List V) (Q : VK) (E : XK) (ea : Addr) (oe : Obj) (cls : Value) (d : Option Addr), L2H.Hot1 A (ea, oe) → Zc cls d oe → (∃ vs, oe.data = .fields vs) → L2H.RoomH k (A.deeper (envOfC qual (defScope st) s.heap.objs.size f cdv)) →
      (ea, oe) ∈ (L2H.cxH (L2N.CX P w) P w K mg base N qual (defScope st) f cdv A outer s H E (ea, oe)).pn → L2H.HotC (L2H.cxH (L2N.CX P w) P w K mg base N qual (defScope st) f cdv A outer s H E (ea, oe)) →
      PassesOwn (model P w) (L2H.cxH (L2N.CX P w) P w K mg base N qual (defScope st) f cdv A outer s H E (ea, oe)).A (L2H.cxH (L2N.CX P w) P w K mg base N qual (defScope st) f cdv A outer s H E (ea, oe)).env (L2H.cxH (L2N.CX P w) P w K mg base N qual (defScope st) f cdv A outer s H E (ea, oe)).xe → sp ea cls d vs H Q E →
      ∃ t, PSs (L2H.cxH (L2N.CX P w) P w K mg base N qual (defScope st) f cdv A outer s H E (ea, oe)) (defBody st) t ∧ t { nx := fun _ H' => Q .non H', rt := Q } (start N vs) H) : FnXA P w K mg base (k + 1) f ps sp := by
  obtain ⟨oc, od, kV, doc, pm, an, cdv, ct, osl, rfl, lk, hcd⟩ := F.ex
  exact ⟨_, fn_ofX lk hcd S len fun A outer s H vs Q E a oe cls d hot hzc hfl hr hsp => hbody cdv A outer s H vs Q E a oe cls d hot hzc hfl hr List.mem_cons_self ⟨(a, oe), ⟨hot.1, hot.2⟩, List.mem_cons_self⟩ (passes_of rfl) hsp, b⟩
/-- f(.., e, ..) in the suite that holds the exception e -/
theorem pe_callXA {X : Cx} {k : Nat} {f : Addr} {ps : List Str} {sp : SpX} {x : Str} {p pos : Pos} {e : Expr} {es : List Expr} {t : TA} {ea : Addr} {oe : Obj} {cls : Value} {d : Option Addr} {pn : List (Addr × Obj)}
    (hz : L2N.Zn cls d oe) (hf : ∃ vs, oe.data = .fields vs) (G : FnXA (X.suite ea ((ea, oe) :: pn)).prog (X.suite ea ((ea, oe) :: pn)).w (X.suite ea ((ea, oe) :: pn)).K (X.suite ea ((ea, oe) :: pn)).mg (X.suite ea ((ea, oe) :: pn)).base k f ps sp) (hr : L2H.RoomH k (X.suite ea ((ea, oe) :: pn)).A) (hm : Nm (X.suite ea ((ea, oe) :: pn)).K (X.suite ea ((ea, oe) :: pn)).mg x f)
    (ha : PA (X.suite ea ((ea, oe) :: pn)) (e :: es) t) (hg : Gl (X.suite ea ((ea, oe) :: pn)) x := by rfl) (hdb : (x == ("__debug__" : Str)) = false := by decide) (he : starEach (e :: es) (X.suite ea ((ea, oe) :: pn)).env = (false, eval e (X.suite ea ((ea, oe) :: pn)).env) :: starEach es (X.suite ea ((ea, oe) :: pn)).env := by rfl) (hpl : (backTo pos (starEach es (X.suite ea ((ea, oe) :: pn)).env)).any (·.1) = false := by rfl) :
    PE (X.suite ea ((ea, oe) :: pn)) (.Call (.Name x p) (e :: es) [] pos) (tCallS (sp ea cls d) (fun _ => E0) t) := by
  obtain ⟨fd, F, b⟩ := G
  refine ⟨fun pins s σ H Q I h => ?_⟩
  refine wpAny_Call_Name_kw (ld_glob I hg hm.m ?_ hdb)
  refine PySem.W.callWith_K (h₀ := (X.suite ea ((ea, oe) :: pn)).base) I.ok.mod.kin hm.k (thn (ha.run pos pins s σ H _ I h) fun us s1 ⟨vs, H1, I1, r, q⟩ => ⟨I1.kIn, ?_⟩) he hpl
  have hl : us.length = ps.length := by rw [← r.length]; exact F.len _ _ _ _ _ _ _ q
  have b2 := b s1 us I1.kIn (by rw [List.append_nil]; exact hl)
  rw [List.append_nil] at b2
  have P1 := I1.pin (ea, oe) (List.mem_append_left _ List.mem_cons_self)
  have hpin : L2H.PinOk (X.suite ea ((ea, oe) :: pn)).stack H1 s1 (ea, oe) := ⟨P1.1, P1.2.1, fun hm => (List.mem_cons.mp (I1.stkSub ea hm)).elim P1.2.2.1 P1.2.2.2.1, P1.2.2.2.2⟩
  have hot : L2H.Hot1 (X.suite ea ((ea, oe) :: pn)).A (ea, oe) := by
    obtain ⟨vs, hd⟩ := hf
    exact ⟨rfl, vs, hd, hz.2.2 vs hd⟩
  refine wpAny_call (codeAny_mono (F.run (X.suite ea ((ea, oe) :: pn)).A (X.suite ea ((ea, oe) :: pn)).stack s1 H1 ⟨us, []⟩ us vs Q _ ea oe cls d hr hot hpin hz.zc hf I1.env0 b2 r q) fun r s' hq => ?_)
  cases r with
  | error e => exact L2N.passAt takes0 σ pins H1 s1 e s' I1 hq
  | ok fl =>
    cases fl with
    | ret u => exact I1.after hq
    | next => exact False.elim hq
    | brk => exact False.elim hq
    | cont => exact False.elim hq
/-- isinstance(e, C) in such a def -/
theorem call_isX {X : Cx} {a : Addr} {oe : Obj} {cls : Value} {d : Option Addr} (hpn : (a, oe) ∈ X.pn) (hz : Zc cls d oe) (hf : ∃ vs, oe.data = .fields vs) : CallR X (.builtin "isinstance") (rIsG X.K a cls d) := by
  intro pins s σ H xs us Q I r h
  obtain ⟨C, dd, fs, c, cv, b, rfl, rfl, rfl, hdd, E, hcv, e, q⟩ := h
  obtain ⟨u1, u2, rfl, r1, r2⟩ := vals2 r
  have e2 := hcv.eq r2
  subst e2
  cases r1
  obtain ⟨ha, _⟩ := I.pin (a, oe) (List.mem_append_left _ hpn)
  obtain ⟨vs, hd⟩ := hf
  have hx : ObjOk X.prog X.w H s.heap dd (.xd fs) := I.hok dd _ hdd
  obtain ⟨mA, hns, hr⟩ := hx
  obtain ⟨od, ho, hl⟩ := lookIn_ns hns
  have J : PySem.W.InstAt s.heap a oe C (some od) := ⟨ha, hz.1, by unfold PySem.W.notCls; rw [hd] <;> rfl, by rw [hz.2]; exact ho⟩
  have hcl : (PySem.W.clsIn X.K C).isSome = true := by
    obtain ⟨cd, hc, _⟩ := PySem.W.any_some E.hd
    rw [hc]; rfl
  exact PySem.W.kia_one (PySem.W.kitx_exc hcl E.hg E.hk E.hs E.ha E.hn E.ht E.hm) I.kIn J e (fun z => nomatch z) fun tk => ⟨.bl b, H, I.kept (t' := tk) fun _ _ z => z, rfl, q⟩
end Lk
namespace Lk
open PySem PySem.Spec PyProof.Rows L2
theorem kb_lb : kitB "list" "bool" = some false := by decide +kernel
theorem kb_ls : kitB "list" "str" = some false := by decide +kernel
theorem kb_ts : kitB "tuple" "str" = some false := by decide +kernel
theorem w_isN_b {c : Bool} {H : Hp} {Q : VK} (k : Q (.bl false) H) : aIsN (.bl c) .non H Q := ⟨rfl, by rw [show decide (V.bl c = V.non) = false by simp]; exact k⟩
theorem w_notN_b {c : Bool} {H : Hp} {Q : VK} (k : Q (.bl true) H) : aNotN (.bl c) .non H Q := ⟨rfl, by rw [show decide (V.bl c = V.non) = false by simp]; exact k⟩
/-! ### values that are alike through and through -/
def SameV : Nat → Hp → V → V → Prop
  | 0 => fun _ _ _ => False
  | n + 1 => fun H v w => (v = .non ∧ w = .non) ∨ (∃ b, v = .bl b ∧ w = .bl b) ∨ (∃ i, v = .int i ∧ w = .int i) ∨ (∃ s, v = .str s ∧ w = .str s) ∨
    (∃ p q xs ys, v = .ref p ∧ w = .ref q ∧ H p = some (.lst xs) ∧ H q = some (.lst ys) ∧ xs.length = ys.length ∧ ys.length < 1000000 ∧ ∀ (i : Nat) (x y : V), xs[i]? = some x → ys[i]? = some y → SameV n H x y) ∨
    (∃ p q xs ys, v = .ref p ∧ w = .ref q ∧ H p = some (.tup xs) ∧ H q = some (.tup ys) ∧ xs.length = ys.length ∧ ys.length < 1000000 ∧ ∀ (i : Nat) (x y : V), xs[i]? = some x → ys[i]? = some y → SameV n H x y)
theorem SameV.kp {H H' : Hp} (k : ∀ a o, H a = some o → H' a = some o) : ∀ {n : Nat} {v w : V}, SameV n H v w → SameV n H' v w
  | 0, _, _, h => h.elim
  | n + 1, v, w, h => by
    rcases h with h | h | h | h | ⟨p, q, xs, ys, rfl, rfl, hp, hq, hl, hz, h⟩ | ⟨p, q, xs, ys, rfl, rfl, hp, hq, hl, hz, h⟩
    · exact .inl h
    · exact .inr (.inl h)
    · exact .inr (.inr (.inl h))
    · exact .inr (.inr (.inr (.inl h)))
    · exact .inr (.inr (.inr (.inr (.inl ⟨p, q, xs, ys, rfl, rfl, k _ _ hp, k _ _ hq, hl, hz, fun i x y h1 h2 => SameV.kp k (h i x y h1 h2)⟩))))
    · exact .inr (.inr (.inr (.inr (.inr ⟨p, q, xs, ys, rfl, rfl, k _ _ hp, k _ _ hq, hl, hz, fun i x y h1 h2 => SameV.kp k (h i x y h1 h2)⟩))))
theorem SameV.up {H : Hp} : ∀ {n m : Nat} {v w : V}, n ≤ m → SameV n H v w → SameV m H v w
  | 0, _, _, _, _, h => h.elim
  | n + 1, 0, _, _, hm, _ => absurd hm (by omega)
  | n + 1, m + 1, v, w, hm, h => by
    rcases h with h | h | h | h | ⟨p, q, xs, ys, rfl, rfl, hp, hq, hl, hz, h⟩ | ⟨p, q, xs, ys, rfl, rfl, hp, hq, hl, hz, h⟩
    · exact .inl h
    · exact .inr (.inl h)
    · exact .inr (.inr (.inl h))
    · exact .inr (.inr (.inr (.inl h)))
    · exact .inr (.inr (.inr (.inr (.inl ⟨p, q, xs, ys, rfl, rfl, hp, hq, hl, hz, fun i x y h1 h2 => SameV.up (by omega) (h i x y h1 h2)⟩))))
    · exact .inr (.inr (.inr (.inr (.inr ⟨p, q, xs, ys, rfl, rfl, hp, hq, hl, hz, fun i x y h1 h2 => SameV.up (by omega) (h i x y h1 h2)⟩))))
section
variable {H : Hp} {n : Nat} {p q : Addr}
theorem SameV.non : SameV (n + 1) H .non .non := .inl ⟨rfl, rfl⟩
theorem SameV.bl {b : Bool} : SameV (n + 1) H (.bl b) (.bl b) := .inr (.inl ⟨b, rfl, rfl⟩)
theorem SameV.int {i : Int} : SameV (n + 1) H (.int i) (.int i) := .inr (.inr (.inl ⟨i, rfl, rfl⟩))
theorem SameV.str {s : Str} : SameV (n + 1) H (.str s) (.str s) := .inr (.inr (.inr (.inl ⟨s, rfl, rfl⟩)))
/-- members that are alike -/
inductive SameL (n : Nat) (H : Hp) : List V → List V → Prop
  | nil : SameL n H [] []
  | cons {x y : V} {xs ys : List V} : SameV n H x y → SameL n H xs ys → SameL n H (x :: xs) (y :: ys)
theorem SameL.len {xs ys : List V} (h : SameL n H xs ys) : xs.length = ys.length := by
  induction h with
  | nil => rfl
  | cons _ _ ih => simp [ih]
theorem SameL.get {xs ys : List V} (h : SameL n H xs ys) : ∀ (i : Nat) (x y : V), xs[i]? = some x → ys[i]? = some y → SameV n H x y := by
  induction h with
  | nil => intro i x y e; simp at e
  | cons h1 _ ih =>
    intro i x y e1 e2
    cases i with
    | zero => simp at e1 e2; subst e1; subst e2; exact h1
    | succ i => exact ih i x y (by simpa using e1) (by simpa using e2)
theorem SameL.refl {xs : List V} (h : ∀ x ∈ xs, SameV n H x x) : SameL n H xs xs := by
  induction xs with
  | nil => exact .nil
  | cons x xs ih => exact .cons (h x (by simp)) (ih fun y hy => h y (List.mem_cons_of_mem _ hy))
theorem SameV.lst {xs ys : List V} (hp : H p = some (.lst xs)) (hq : H q = some (.lst ys)) (hz : ys.length < 1000000) (h : SameL n H xs ys) : SameV (n + 1) H (.ref p) (.ref q) :=
  .inr (.inr (.inr (.inr (.inl ⟨p, q, xs, ys, rfl, rfl, hp, hq, h.len, hz, h.get⟩))))
theorem SameV.tup {xs ys : List V} (hp : H p = some (.tup xs)) (hq : H q = some (.tup ys)) (hz : ys.length < 1000000) (h : SameL n H xs ys) : SameV (n + 1) H (.ref p) (.ref q) :=
  .inr (.inr (.inr (.inr (.inr ⟨p, q, xs, ys, rfl, rfl, hp, hq, h.len, hz, h.get⟩))))
/-- flat rows -/
def flatB : V → Bool
  | .int _ => true
  | .str _ => true
  | .bl _ => true
  | .non => true
  | _ => false
theorem SameL.flat {xs : List V} (h : xs.all flatB = true) : SameL (n + 1) H xs xs := SameL.refl fun x hx => by
  have := List.all_eq_true.mp h x hx
  cases x with
  | int i => exact .int
  | str i => exact .str
  | bl i => exact .bl
  | non => exact .non
  | byt b => cases this
  | flt b => cases this
  | ref a => cases this
  | ty n => cases this
theorem flat_ints (us : List Int) : (us.map V.int).all flatB = true := by rw [List.all_map, List.all_eq_true]; intro _ _; rfl
theorem flat_strs (us : List Str) : (us.map V.str).all flatB = true := by rw [List.all_map, List.all_eq_true]; intro _ _; rfl
theorem flat_bls (us : List Bool) : (us.map V.bl).all flatB = true := by rw [List.all_map, List.all_eq_true]; intro _ _; rfl
theorem SameV.ints {us : List Int} (hp : H p = some (.lst (us.map V.int))) (hq : H q = some (.lst (us.map V.int))) (hz : us.length < 1000000) : SameV (n + 2) H (.ref p) (.ref q) := .lst hp hq (by simpa using hz) (SameL.flat (flat_ints us))
theorem SameV.row {xs : List V} (hp : H p = some (.tup xs)) (hq : H q = some (.tup xs)) (hz : xs.length < 1000000) (h : xs.all flatB = true) : SameV (n + 2) H (.ref p) (.ref q) := .tup hp hq hz (SameL.flat h)
end
/-! ### classes above one another -/
theorem kit_cl {K : PySem.W.Frag} {C D : Addr} {b : Bool} (i : PySem.W.isClsIn K D = true) (t : PySem.W.typeIn K (.ref D) = some (.type "type")) (r : PySem.W.subIn K (.ref C) (.ref C) = some true) (s : PySem.W.subIn K (.ref C) (.ref D) = some b) : PySem.W.kitOne K (.ref C) (.ref D) = some b := by
  have h2' : (PySem.W.clsIn K D).isSome = true := i
  have e2 : ((PySem.W.clsIn K D).isSome && PySem.W.typeIn K (.ref D) == some (.type "type")) = true := by
    rw [h2', t] <;> rfl
  unfold PySem.W.kitOne
  by_cases z : C = D
  · subst z
    rw [r] at s
    rw [← s]
    rw [if_pos (by simp)]
  · rw [if_neg (by simp [z])]
    show (if ((PySem.W.clsIn K D).isSome && PySem.W.typeIn K (.ref D) == some (.type "type")) = true then PySem.W.subIn K (.ref C) (.ref D) else none) = some b
    rw [if_pos e2]
    exact s
theorem w_isD {K : PySem.W.Frag} {a C D dx : Addr} {fs : List (Str × V)} {b : Bool} {H : Hp} {Q : VK} (hp : H a = some (.ins C dx fs)) (c : C8.InsC K C) (e : PySem.W.kitOne K (.ref C) (.ref D) = some b) (k : Q (.bl b) H) : rIsi K [.ref a, .ref D] H Q :=
  ⟨_, _, _, _, b, rfl, .own D, .base (TyOf.ins hp c.cl c.ha c.hn c.htk c.hm), e, k⟩
/-- x.f, f a constant of x's class -/
def aCon (K : PySem.W.Frag) (f : Str) (Q : VK) : VK := fun x H1 => ∃ a C dx fs v u, x = .ref a ∧ H1 a = some (.ins C dx fs) ∧ Cls K C ∧ Con K C f v u ∧ fs.lookup f = none ∧ Q v H1
theorem s_con {K : PySem.W.Frag} {te : TE} {f : Str} {σ : L2.St} {H : Hp} {Q : VK} (k : te σ H (aCon K f Q)) : tCon K te f σ H Q := k
theorem w_con {K : PySem.W.Frag} {f : Str} {H : Hp} {Q : VK} {a C dx : Addr} {fs : List (Str × V)} {v : V} (hp : H a = some (.ins C dx fs)) (c : Cls K C) (n : ∃ u, Con K C f v u) (l : fs.lookup f = none) (k : Q v H) : aCon K f Q (.ref a) H := by
  obtain ⟨u, n⟩ := n
  exact ⟨a, C, dx, fs, v, u, rfl, hp, c, n, l, k⟩
def rUpper : V → List V → Hp → VK → Prop := fun x xs H Q => ∃ a, x = .str a ∧ xs = [] ∧ a.length ≤ 5592405 ∧ Q (.str (Txt.upper a)) H
theorem m_upper {X : Cx} : MtR X "str.upper" rUpper := mt_upper
theorem w_upper {a : Str} {H : Hp} {Q : VK} (h : a.length ≤ 5592405) (k : Q (.str (Txt.upper a)) H) : rUpper (.str a) [] H Q := ⟨a, rfl, rfl, h, k⟩
end Lk
namespace Lk
open PySem PySem.Spec PyProof.Rows L2
local macro_rules | `(tactic| walk_at "hp") => `(tactic| first
  | assumption
  | exact upd_same
  | ((with_reducible show upd _ _ _ _ = _); first | exact upd_new (by assumption) (by walk_at "hp") | exact upd_get (by walk_at "ne") (by walk_at "hp") | exact upd_kind (by assumption) (by walk_at "hp") (by intro z; cases z))
  | exact Kp.at0 (by assumption) (by walk_at "hp")
  | exact Kp.at (by assumption) (by walk_at "hp") (by walk_at "nm"))
local macro_rules | `(tactic| walk_at "dcd") => `(tactic| first
  | exact decide_eq_decide.mpr (by omega)
  | exact (decide_eq_true (by omega)).symm
  | exact (decide_eq_false (by omega)).symm)
local macro_rules | `(tactic| walk_at "ne") => `(tactic| first
  | assumption
  | exact Ne.symm (by assumption)
  | exact ne_n (by assumption) (by walk_at "hp")
  | exact ne_n' (by assumption) (by walk_at "hp"))
local macro_rules | `(tactic| walk_at "nm") => `(tactic| first
  | exact List.not_mem_nil
  | (refine not_mem2 (by walk_at "ne") ?_; walk_at "nm"))
local macro_rules | `(tactic| walk_at "kp") => `(tactic| first
  | exact Kp.refl
  | assumption
  | (refine Kp.new ?_ (by assumption); walk_at "kp")
  | (refine Kp.mut ?_ (by simp); walk_at "kp")
  | (refine Kp.own ?_ (by walk_at "fr"); walk_at "kp")
  | (refine Kp.trans0 ?_ (by assumption); walk_at "kp")
  | (refine Kp.trans ?_ (by assumption); walk_at "kp"))
local macro_rules | `(tactic| walk_at "num") => `(tactic| first
  | omega
  | (simp only [sizeLine_eq, List.length_map, List.length_append, List.length_cons, List.length_nil, List.length_replicate, List.length_set, List.length_range, CMul, CDivN, CDiv, CPow]; omega)
  | decide)
local macro_rules | `(tactic| walk_at "put") => `(tactic| first
  | (with_reducible exact put_nil)
  | (with_reducible exact put_hit)
  | exact put_miss (by decide) (by walk_at "put"))
local macro_rules | `(tactic| walk_at "fr") => `(tactic| first
  | assumption
  | exact upd_nil (by assumption)
  | exact upd_nil (upd_nil (by assumption))
  | exact upd_nil (upd_nil (upd_nil (by assumption)))
  | exact upd_nil (upd_nil (upd_nil (upd_nil (by assumption))))
  | exact upd_nil (upd_nil (upd_nil (upd_nil (upd_nil (by assumption)))))
  | exact upd_nil (upd_nil (upd_nil (upd_nil (upd_nil (upd_nil (by assumption))))))
  | exact upd_nil (upd_nil (upd_nil (upd_nil (upd_nil (upd_nil (upd_nil (by assumption)))))))
  | exact upd_nil (upd_nil (upd_nil (upd_nil (upd_nil (upd_nil (upd_nil (upd_nil (by assumption))))))))
  | exact upd_nil (upd_nil (upd_nil (upd_nil (upd_nil (upd_nil (upd_nil (upd_nil (upd_nil (by assumption)))))))))
  | exact upd_nil (upd_nil (upd_nil (upd_nil (upd_nil (upd_nil (upd_nil (upd_nil (upd_nil (upd_nil (by assumption))))))))))
  | exact upd_nil (upd_nil (upd_nil (upd_nil (upd_nil (upd_nil (upd_nil (upd_nil (upd_nil (upd_nil (upd_nil (by assumption)))))))))))
  | exact Kp.free (by assumption) (by walk_at "fr"))
local macro_rules | `(tactic| walk_at "lg") => `(tactic| first
  | assumption
  | exact log2_small (by omega))
local macro_rules | `(tactic| walk_at "tst") => `(tactic| first
  | assumption
  | rfl
  | omega)
local macro_rules | `(tactic| walk_at "s") => `(tactic| with_reducible first
  | refine s_seq ?_
  | refine s_var (by with_unfolding_all rfl) ?_
  | refine s_c ?_
  | refine s_op ?_
  | refine s_cons ?_
  | refine s_nil ?_
  | refine s_asg ?_
  | refine s_name (by with_unfolding_all rfl) ?_
  | refine s_sub ?_
  | refine s_callS ?_
  | refine s_CB ?_
  | refine s_BM ?_
  | refine s_BM0 ?_
  | refine s_ret ?_
  | refine s_drop ?_
  | refine s_ifS ?_
  | refine s_B ?_
  | refine s_tru ?_
  | refine s_and ?_
  | refine s_or ?_
  | refine s_not ?_
  | refine s_andV ?_
  | refine s_orV ?_
  | refine s_notV ?_
  | refine s_if ?_
  | refine s_chain ?_
  | refine s_un ?_
  | refine s_lst ?_
  | refine s_tup ?_
  | refine s_sl ?_
  | refine s_nopart ?_
  | refine s_part ?_
  | refine s_next ?_
  | refine s_retN ?_
  | refine s_yes ?_
  | refine s_forR1 ?_
  | refine s_forR2 ?_
  | refine s_forL ?_
  | refine s_forE ?_
  | refine s_lcL ?_
  | refine s_lcR1 ?_
  | refine s_lcR2 ?_
  | refine s_lcE ?_
  | refine s_chain3 ?_
  | refine s_mkx ?_
  | refine s_xfR ?_
  | refine s_fld ?_
  | refine s_sfld ?_
  | refine s_methS ?_
  | refine s_makeS ?_
  | refine s_cval ?_
  | refine s_listRg ?_
  | refine s_lcV ?_
  | refine s_tB ?_
  | refine s_dnew ?_
  | refine s_din ?_
  | refine s_dnin ?_
  | refine s_dget ?_
  | refine s_dput ?_
  | refine s_forT ?_
  | refine s_brk ?_
  | refine s_cont ?_
  | refine s_fmtP ?_
  | refine s_forS ?_
  | refine s_lcT ?_
  | refine s_slSt ?_
  | refine s_methD ?_
  | refine s_callK ?_
  | refine s_callKd ?_
  | refine s_make0 ?_
  | refine s_listM ?_
  | refine s_con ?_
  | refine g_then ?_
  | refine g_plain ?_
  | refine g_0 ?_)
local macro_rules | `(tactic| walk_at "v") => `(tactic| first
  | ((with_reducible show rIx _ _ _ _ _); first  | (refine w_ixM (by walk_at "hp") (by walk_at "num") (by walk_at "num") ?_) | (refine w_ixQ (by assumption) (by walk_at "num") (by walk_at "num") ?_) | (refine w_ixL (by walk_at "hp") (by walk_at "num") (by first | rfl | assumption) ?_) | (refine w_ixT (by walk_at "hp") (by walk_at "num") (by first | rfl | assumption) ?_) | (refine w_ixNeg (by walk_at "hp") (by walk_at "num") (by walk_at "num") ?_))
  | (with_reducible refine w_I0 ?_)
  | ((with_reducible show rI _ _ _ _ _ _); first  | (refine w_I (by walk_at "num") ?_))
  | (with_reducible refine w_B ?_)
  | (with_reducible refine w_truB ?_)
  | (with_reducible refine w_addI ?_)
  | ((with_reducible show aAdd _ _ _ _); first  | (refine w_addL1 (by walk_at "hp") (by walk_at "hp") (by walk_at "num") ?_) | (refine w_addR1 (by walk_at "hp") (by walk_at "hp") (by walk_at "num") ?_) | (refine w_addLM (by walk_at "hp") (by walk_at "hp") (by walk_at "num") ?_) | (refine w_addL (by walk_at "hp") (by walk_at "hp") (by walk_at "num") ?_) | (refine w_addS (by walk_at "num") ?_))
  | (with_reducible refine w_eqI ?_)
  | (with_reducible refine w_neI ?_)
  | (with_reducible refine w_eqB ?_)
  | (with_reducible refine w_neB ?_)
  | (with_reducible refine w_eqS ?_)
  | (with_reducible refine w_neS ?_)
  | ((with_reducible show rIsG _ _ _ _ _ _ _); first  | (refine w_isG (by walk_at "hp") (by walk_at "ef") (by walk_at "et") ?_) | (refine w_isGv (by walk_at "hp") (by walk_at "ef") (by walk_at "et") ?_))
  | ((with_reducible show aXf _ _ _ _ _ _ _ _); first  | (refine w_xf (by walk_at "hp") (by walk_at "ef") (by walk_at "fi") (by rfl) ?_))
  | ((with_reducible show rIn _ false _ _ _ _); first  | (refine w_inI (by walk_at "hp") ?_) | (refine w_inS (by walk_at "hp") ?_) | (refine w_inB (by walk_at "hp") ?_) | (refine w_inST (by walk_at "hp") ?_))
  | ((with_reducible show aFmtP _ _ _); first  | (refine w_fmtP (by walk_at "num") ?_))
  | ((with_reducible show rNotInS _ _ _ _); first  | (refine w_notInC ?_))
  | ((with_reducible show rLeT _ _ _ _ _); first  | (refine w_leT2 (by walk_at "hp") (by walk_at "hp") ?_))
  | ((with_reducible show rIn _ true _ _ _ _); first  | (refine w_notInI (by walk_at "hp") ?_) | (refine w_notInS (by walk_at "hp") ?_) | (refine w_notInB (by walk_at "hp") ?_) | (refine w_notInST (by walk_at "hp") ?_))
  | ((with_reducible show aEq _ _ _ _ _); first  | (refine w_eqLI' (by walk_at "hp") (by walk_at "hp") ?_) | (refine w_eqLI0 (by walk_at "hp") (by walk_at "hp") ?_))
  | ((with_reducible show aNe _ _ _ _ _); first  | (refine w_neLI' (by walk_at "hp") (by walk_at "hp") ?_) | (refine w_neLI0 (by walk_at "hp") (by walk_at "hp") ?_))
  | (with_reducible refine w_truI ?_)
  | (with_reducible refine w_truN ?_)
  | ((with_reducible show aTru _ _ _ _); first  | (refine w_truL (by walk_at "hp") ?_) | (refine w_truT (by walk_at "hp") ?_))
  | ((with_reducible show rSetL _ _ _ _ _); first  | (refine w_setMI (by walk_at "hp") (by walk_at "num") (by walk_at "num") ?_) | (refine w_setMB (by walk_at "hp") (by walk_at "num") (by walk_at "num") ?_) | (refine w_setMS (by walk_at "hp") (by walk_at "num") (by walk_at "num") ?_) | (refine w_setL (by walk_at "hp") (by walk_at "num") (by walk_at "num") ?_))
  | ((with_reducible show aMul _ _ _ _); first  | (refine w_mulI (by walk_at "num") ?_) | (refine w_repI (by walk_at "hp") (by walk_at "num") (by walk_at "num") (by walk_at "num") ?_) | (refine w_repB (by walk_at "hp") (by walk_at "num") (by walk_at "num") (by walk_at "num") ?_))
  | ((with_reducible show tyV _ _ _ _ ∧ _); first  | (refine w_tyL (by walk_at "hp") ?_) | (refine w_tyS ?_))
  | ((with_reducible show rExtend _ _ _ _); first  | (refine w_extMI (by walk_at "hp") (by walk_at "hp") (by walk_at "num") ?_))
  | ((with_reducible show rAppend _ _ _ _); first  | (refine w_appMI (by walk_at "hp") (by walk_at "num") ?_) | (refine w_appMS (by walk_at "hp") (by walk_at "num") ?_) | (refine w_appMB (by walk_at "hp") (by walk_at "num") ?_) | (refine w_appL (by walk_at "hp") (by walk_at "num") ?_))
  | ((with_reducible show rLen _ _ _ _); first  | (refine w_lenM (by walk_at "hp") ?_) | (refine w_lenQ (by assumption) ?_) | (refine w_lenL (by walk_at "hp") ?_) | (refine w_lenT (by walk_at "hp") ?_) | (refine w_lenS (by walk_at "num") ?_))
  | ((with_reducible show rSum _ _ _ _); first  | (refine w_sum (by walk_at "hp") ?_))
  | ((with_reducible show rAll _ _ _ _); first  | (refine w_all (by walk_at "hp") ?_))
  | ((with_reducible show rIsC _ _ _ _); first  | (refine w_isC (by walk_at "hp") ?_))
  | ((with_reducible show rTupOf _ _ _ _); first  | (refine w_tupOf (by walk_at "hp") ?_))
  | (with_reducible refine w_isB ?_)
  | (with_reducible refine w_notB ?_)
  | ((with_reducible show gTup _ _ _ _ _ _ _); first  | (refine w_gTup (by walk_at "hp") rfl ?_))
  | (with_reducible refine w_gCons ?_)
  | (with_reducible refine w_gNil ?_)
  | (with_reducible refine w_abs ?_)
  | (with_reducible refine w_int ?_)
  | ((with_reducible show _ ≤ sizeLine ∧ _); first  | (refine w_new (by walk_at "num") ?_))
  | (with_reducible refine w_U ?_)
  | ((with_reducible show rSlA _ _ _ _ _ _); first  | (refine w_slM (by walk_at "hp") ?_) | (refine w_slL (by walk_at "hp") ?_) | (refine w_slS (by walk_at "num") ?_) | (refine w_slQ (by assumption) ?_))
  | (with_reducible refine w_part ?_)
  | ((with_reducible show rListOf _ _ _ _); first  | (refine w_listL (by walk_at "hp") ?_) | (refine w_listT (by walk_at "hp") ?_))
  | ((with_reducible show rInsert _ _ _ _); first  | (refine w_insMI (by walk_at "hp") (by walk_at "num") (by walk_at "num") (by walk_at "num") ?_) | (refine w_insMS (by walk_at "hp") (by walk_at "num") (by walk_at "num") (by walk_at "num") ?_))
  | ((with_reducible show rReverse _ _ _ _); first  | (refine w_rev (by walk_at "hp") ?_))
  | ((with_reducible show aCon _ _ _ _ _); first  | (refine w_con (by walk_at "hp") (by walk_at "cl") (by walk_at "cn") (by rfl) ?_))
  | ((with_reducible show rUpper _ _ _ _); first  | (refine w_upper (by walk_at "num") ?_))
  | ((with_reducible show rIsi _ _ _ _); first  | (refine w_isD (by walk_at "hp") (by walk_at "in") (by walk_at "kd") ?_) | (with_reducible refine w_isiI kb_ii ?_) | (with_reducible refine w_isiI kb_ib ?_) | (with_reducible refine w_isiI kb_is ?_) | (with_reducible refine w_isiI kb_il ?_) | (with_reducible refine w_isiI kb_it ?_) | (with_reducible refine w_isiB kb_bi ?_) | (with_reducible refine w_isiB kb_bb ?_) | (with_reducible refine w_isiB kb_bt ?_) | (with_reducible refine w_isiS kb_ss ?_) | (with_reducible refine w_isiS kb_si ?_) | (with_reducible refine w_isiS kb_st ?_) | (with_reducible refine w_isiS kb_sl ?_) | (with_reducible refine w_isiN kb_nt ?_) | (with_reducible refine w_isiN kb_ni ?_) | (with_reducible refine w_isiN kb_nl ?_) | (with_reducible refine w_isiN kb_ns ?_) | (refine w_isiL (by walk_at "hp") kb_ll ?_) | (refine w_isiT (by walk_at "hp") kb_tt ?_) | (refine w_isiL (by walk_at "hp") kb_lt ?_) | (refine w_isiL (by walk_at "hp") kb_li ?_) | (refine w_isiT (by walk_at "hp") kb_tl ?_) | (refine w_isiT (by walk_at "hp") kb_ti ?_) | (refine w_isiT (by walk_at "hp") kb_tb ?_) | (refine w_isiT (by walk_at "hp") kb_ts ?_) | (refine w_isiL (by walk_at "hp") kb_lb ?_) | (refine w_isiL (by walk_at "hp") kb_ls ?_) | (with_reducible refine w_isiS kb_sb ?_) | (with_reducible refine w_isiN kb_nb ?_))
  | ((with_reducible show aFld _ _ _ _ _); first  | (refine w_fld (by walk_at "hp") (by walk_at "cl") (by walk_at "na") (by rfl) ?_))
  | ((with_reducible show aSFld _ _ _ _ _ _); first  | (refine w_sfld (by walk_at "hp") (by walk_at "cl") (by walk_at "na") (by simp) (by walk_at "put") ?_))
  | ((with_reducible show aMeth _ _ _ _ _); first  | (refine w_meth (by walk_at "hp") (by rfl) ?_))
  | ((with_reducible show rInO _ _ _ _ _ _); first  | (refine w_inO (by walk_at "hp") ?_))
  | ((with_reducible show aListM _ _ _ _ _ _); first  | (refine w_listM (by walk_at "hp") (by rfl) ?_))
  | ((with_reducible show aCVal _ _ _ _ _); first  | (refine w_cval (by walk_at "rd") (by walk_at "cv") ?_))
  | ((with_reducible show rJoin _ _ _ _ _); first  | (refine w_join (by walk_at "hp") (by walk_at "num") ?_))
  | ((with_reducible show rSplit _ _ _ _); first  | (refine w_split (by decide) (by walk_at "num") ?_))
  | ((with_reducible show aDIn _ _ _ _); first  | (refine w_dinI (by walk_at "hp") ?_))
  | ((with_reducible show aDNin _ _ _ _); first  | (refine w_dninI (by walk_at "hp") ?_))
  | ((with_reducible show aDPut _ _ _ _ _); first  | (refine w_dputI (by walk_at "hp") (by walk_at "num") ?_))
  | ((with_reducible show rCatT _ _ _ _ _); first  | (refine w_catT (by walk_at "hp") (by walk_at "hp") (by first | exact List.cons_ne_nil _ _ | exact mapNe (by assumption)) (by first | exact List.cons_ne_nil _ _ | exact mapNe (by assumption)) (by walk_at "num") ?_))
  | ((with_reducible show rPopAt _ _ _ _); first  | (refine w_popM (by walk_at "hp") (by walk_at "num") ?_))
  | (with_reducible refine w_digit ?_)
  | (with_reducible refine w_ascii ?_)
  | ((with_reducible show rIntA _ _ _); first  | (with_reducible refine w_intA ?_) | (with_reducible refine w_intB ?_))
  | ((with_reducible show rStrI _ _ _); first  | (refine w_strI (by walk_at "lg") ?_))
  | (with_reducible refine w_rngV ?_)
  | ((with_reducible show aRgL _ _ _ _); first  | (refine w_rgL ⟨(by walk_at "num"), (by walk_at "num"), (by walk_at "num"), (by walk_at "num"), (by walk_at "num")⟩ ?_))
  | (with_reducible refine w_max2 ?_)
  | (with_reducible refine w_min2 ?_)
  | ((with_reducible show aIsN _ _ _ _); first  | (with_reducible refine w_isN_n ?_) | (with_reducible refine w_isN_i ?_) | (with_reducible refine w_isN_r ?_) | (with_reducible refine w_isN_s ?_) | (with_reducible refine w_isN_b ?_))
  | ((with_reducible show aNotN _ _ _ _); first  | (with_reducible refine w_notN_n ?_) | (with_reducible refine w_notN_i ?_) | (with_reducible refine w_notN_r ?_) | (with_reducible refine w_notN_s ?_) | (with_reducible refine w_notN_b ?_)))
local macro_rules | `(tactic| walk_at "i") => `(tactic| first
  | (with_reducible refine w_ite1 ?_)
  | (with_reducible refine w_ite0 ?_)
  | ((with_reducible refine w_iteT ?_ ?_); (· walk_at "tst"))
  | ((with_reducible refine w_iteF ?_ ?_); (· walk_at "tst"))
  | ((with_reducible refine w_iteNT ?_ ?_); (· walk_at "tst"))
  | ((with_reducible refine w_iteNF ?_ ?_); (· walk_at "tst"))
  | ((with_reducible refine w_itebT ?_ ?_); (· walk_at "tst"))
  | ((with_reducible refine w_itebF ?_ ?_); (· walk_at "tst"))
  | ((with_reducible refine w_itenbT ?_ ?_); (· walk_at "tst"))
  | ((with_reducible refine w_itenbF ?_ ?_); (· walk_at "tst")))
local macro_rules | `(tactic| walk_at "w") => `(tactic| repeat (first | walk_at "s" | walk_at "v" | walk_at "i" | (with_reducible dsimp only)))
def top (i : Nat) : Stmt := PySem.Challenge.pw_latelink_k11_refusals_of_modes.main.body.getD i (.Pass ⟨0, 0, 0, 0⟩)
abbrev s_check_size : Stmt := top 13
abbrev s_check_operation : Stmt := top 14
abbrev s_is_number : Stmt := top 15
abbrev s_left_holds : Stmt := top 17
abbrev s_right_holds : Stmt := top 18
abbrev s_foreign_writes : Stmt := top 19
abbrev s__numbers : Stmt := top 22
abbrev s__read_rights : Stmt := top 23
abbrev s__read_lefts : Stmt := top 24
abbrev s__read_outs : Stmt := top 25
abbrev s_check_mode : Stmt := top 29
abbrev s__check_legal : Stmt := top 30
abbrev s__last_holders : Stmt := top 31
abbrev s__loses_gap : Stmt := top 32
abbrev s__leaves_sole_holder : Stmt := top 33
abbrev s__is_local : Stmt := top 34
abbrev s_mode_named : Stmt := top 39
abbrev s_admits : Stmt := top 40
abbrev s_admitted : Stmt := top 41
abbrev s__law_purse : Stmt := top 43
abbrev s__law_take : Stmt := top 44
abbrev s__law_words : Stmt := top 45
abbrev s__law_is : Stmt := top 46
abbrev s__law_ints : Stmt := top 47
abbrev s__law_truth : Stmt := top 48
abbrev s__law_whole : Stmt := top 49
abbrev s__law_operation : Stmt := top 50
abbrev s__law_moved : Stmt := top 51
abbrev s__law_dump : Stmt := top 52
abbrev s__law_lost : Stmt := top 53
abbrev s__law_refusing : Stmt := top 54
abbrev s__law_any : Stmt := top 55
abbrev s__law_run : Stmt := top 56
abbrev s__law_kinds : Stmt := top 57
abbrev s__law_asked : Stmt := top 58
abbrev s__law_listed : Stmt := top 59
abbrev s__law_wrong : Stmt := top 60
abbrev s__law_refused : Stmt := top 61
abbrev s__law_barred : Stmt := top 62
abbrev s__law_no_mode : Stmt := top 63
abbrev s__law_text : Stmt := top 64
abbrev s__law_turn : Stmt := top 65
abbrev s__law_led : Stmt := top 66
abbrev s_law : Stmt := top 67
abbrev s_BadOperation___init__ : Stmt := inClass (top 4) 0
abbrev s_Illegal___init__ : Stmt := inClass (top 5) 0
abbrev s_BadSize___init__ : Stmt := inClass (top 6) 0
abbrev s_BadNode___init__ : Stmt := inClass (top 7) 0
abbrev s_BadMode___init__ : Stmt := inClass (top 8) 0
abbrev s_BadDump___init__ : Stmt := inClass (top 9) 0
abbrev s_Links___init__ : Stmt := inClass (top 26) 1
abbrev s_Links_built : Stmt := inClass (top 26) 2
abbrev s_Links_read : Stmt := inClass (top 26) 3
abbrev s_Links_left : Stmt := inClass (top 26) 4
abbrev s_Links_right : Stmt := inClass (top 26) 5
abbrev s_Links_is_out : Stmt := inClass (top 26) 6
abbrev s_Links_outs : Stmt := inClass (top 26) 7
abbrev s_Links_operation_on : Stmt := inClass (top 26) 8
abbrev s_Links_apply : Stmt := inClass (top 26) 9
abbrev s_Links_apply_at : Stmt := inClass (top 26) 10
abbrev s_Links_walk : Stmt := inClass (top 26) 11
abbrev s_Links_walk_back : Stmt := inClass (top 26) 12
abbrev s_Links_is_sound : Stmt := inClass (top 26) 13
abbrev s_Links_is_whole : Stmt := inClass (top 26) 14
abbrev s_Links_copy : Stmt := inClass (top 26) 15
abbrev s_Links_dump : Stmt := inClass (top 26) 16
abbrev s_Links__dump_parts : Stmt := inClass (top 26) 17
abbrev s_Links___str__ : Stmt := inClass (top 26) 18
abbrev s_Links___len__ : Stmt := inClass (top 26) 19
abbrev s_Links___contains__ : Stmt := inClass (top 26) 20
abbrev s_Links___eq__ : Stmt := inClass (top 26) 21
abbrev s_FreeMode_refusal : Stmt := inClass (top 35) 1
abbrev s_SavingMode_refusal : Stmt := inClass (top 36) 1
abbrev s_GuardedMode_refusal : Stmt := inClass (top 37) 1
abbrev s_CheckedMode_refusal : Stmt := inClass (top 38) 1
/-- where things stand -/
structure AD where
  f_check_size : Addr
  f_check_operation : Addr
  f_is_number : Addr
  f_left_holds : Addr
  f_right_holds : Addr
  f_foreign_writes : Addr
  f__numbers : Addr
  f__read_rights : Addr
  f__read_lefts : Addr
  f__read_outs : Addr
  f_check_mode : Addr
  f__check_legal : Addr
  f__last_holders : Addr
  f__loses_gap : Addr
  f__leaves_sole_holder : Addr
  f__is_local : Addr
  f_mode_named : Addr
  f_admits : Addr
  f_admitted : Addr
  f__law_purse : Addr
  f__law_take : Addr
  f__law_words : Addr
  f__law_is : Addr
  f__law_ints : Addr
  f__law_truth : Addr
  f__law_whole : Addr
  f__law_operation : Addr
  f__law_moved : Addr
  f__law_dump : Addr
  f__law_lost : Addr
  f__law_refusing : Addr
  f__law_any : Addr
  f__law_run : Addr
  f__law_kinds : Addr
  f__law_asked : Addr
  f__law_listed : Addr
  f__law_wrong : Addr
  f__law_refused : Addr
  f__law_barred : Addr
  f__law_no_mode : Addr
  f__law_text : Addr
  f__law_turn : Addr
  f__law_led : Addr
  f_law : Addr
  f_Links___init__ : Addr
  f_Links_built : Addr
  f_Links_read : Addr
  f_Links_left : Addr
  f_Links_right : Addr
  f_Links_is_out : Addr
  f_Links_operation_on : Addr
  f_Links_apply : Addr
  f_Links_apply_at : Addr
  f_Links_dump : Addr
  f_Links__dump_parts : Addr
  f_FreeMode_refusal : Addr
  f_SavingMode_refusal : Addr
  f_GuardedMode_refusal : Addr
  f_CheckedMode_refusal : Addr
  Links : Addr
  FreeMode : Addr
  SavingMode : Addr
  GuardedMode : Addr
  CheckedMode : Addr
  LinkError : Addr
  LogError : Addr
  BadOperation : Addr
  i_BadOperation : Addr
  Illegal : Addr
  i_Illegal : Addr
  BadSize : Addr
  i_BadSize : Addr
  BadNode : Addr
  i_BadNode : Addr
  BadMode : Addr
  i_BadMode : Addr
  BadDump : Addr
  i_BadDump : Addr
  k_MODES : Addr
structure Txt (P : Program) (K : PySem.W.Frag) (mg : Str → Option Value) (a : AD) : Prop where
  n_check_size : Nm K mg "check_size" a.f_check_size
  F_check_size : ∃ fd, Fun K "check_size" "check_size" s_check_size a.f_check_size fd ∧ Binds K fd ["size"] []
  n_check_operation : Nm K mg "check_operation" a.f_check_operation
  F_check_operation : ∃ fd, Fun K "check_operation" "check_operation" s_check_operation a.f_check_operation fd ∧ Binds K fd ["size", "operation", "index"] []
  n_is_number : Nm K mg "is_number" a.f_is_number
  F_is_number : ∃ fd, Fun K "is_number" "is_number" s_is_number a.f_is_number fd ∧ Binds K fd ["word"] []
  n_left_holds : Nm K mg "left_holds" a.f_left_holds
  F_left_holds : ∃ fd, Fun K "left_holds" "left_holds" s_left_holds a.f_left_holds fd ∧ Binds K fd ["links", "gap"] []
  n_right_holds : Nm K mg "right_holds" a.f_right_holds
  F_right_holds : ∃ fd, Fun K "right_holds" "right_holds" s_right_holds a.f_right_holds fd ∧ Binds K fd ["links", "gap"] []
  n_foreign_writes : Nm K mg "foreign_writes" a.f_foreign_writes
  F_foreign_writes : ∃ fd, Fun K "foreign_writes" "foreign_writes" s_foreign_writes a.f_foreign_writes fd ∧ Binds K fd ["links", "operation"] []
  n__numbers : Nm K mg "_numbers" a.f__numbers
  F__numbers : ∃ fd, Fun K "_numbers" "_numbers" s__numbers a.f__numbers fd ∧ Binds K fd ["part"] []
  n__read_rights : Nm K mg "_read_rights" a.f__read_rights
  F__read_rights : ∃ fd, Fun K "_read_rights" "_read_rights" s__read_rights a.f__read_rights fd ∧ Binds K fd ["part"] []
  n__read_lefts : Nm K mg "_read_lefts" a.f__read_lefts
  F__read_lefts : ∃ fd, Fun K "_read_lefts" "_read_lefts" s__read_lefts a.f__read_lefts fd ∧ Binds K fd ["part", "size"] []
  n__read_outs : Nm K mg "_read_outs" a.f__read_outs
  F__read_outs : ∃ fd, Fun K "_read_outs" "_read_outs" s__read_outs a.f__read_outs fd ∧ Binds K fd ["part", "size"] []
  n_check_mode : Nm K mg "check_mode" a.f_check_mode
  F_check_mode : ∃ fd, Fun K "check_mode" "check_mode" s_check_mode a.f_check_mode fd ∧ Binds K fd ["mode"] []
  n__check_legal : Nm K mg "_check_legal" a.f__check_legal
  F__check_legal : ∃ fd, Fun K "_check_legal" "_check_legal" s__check_legal a.f__check_legal fd ∧ Binds K fd ["links", "operation", "index"] []
  n__last_holders : Nm K mg "_last_holders" a.f__last_holders
  F__last_holders : ∃ fd, Fun K "_last_holders" "_last_holders" s__last_holders a.f__last_holders fd ∧ Binds K fd ["links", "operation"] []
  n__loses_gap : Nm K mg "_loses_gap" a.f__loses_gap
  F__loses_gap : ∃ fd, Fun K "_loses_gap" "_loses_gap" s__loses_gap a.f__loses_gap fd ∧ Binds K fd ["links", "operation"] []
  n__leaves_sole_holder : Nm K mg "_leaves_sole_holder" a.f__leaves_sole_holder
  F__leaves_sole_holder : ∃ fd, Fun K "_leaves_sole_holder" "_leaves_sole_holder" s__leaves_sole_holder a.f__leaves_sole_holder fd ∧ Binds K fd ["links", "operation"] []
  n__is_local : Nm K mg "_is_local" a.f__is_local
  F__is_local : ∃ fd, Fun K "_is_local" "_is_local" s__is_local a.f__is_local fd ∧ Binds K fd ["links", "operation"] []
  n_mode_named : Nm K mg "mode_named" a.f_mode_named
  F_mode_named : ∃ fd, Fun K "mode_named" "mode_named" s_mode_named a.f_mode_named fd ∧ Binds K fd ["mode"] []
  n_admits : Nm K mg "admits" a.f_admits
  F_admits : ∃ fd, FunD K "admits" "admits" (defArgs s_admits) (defBody s_admits) (defScope s_admits) [] [("mode", .str "free")] a.f_admits fd ∧ KwOk K fd ["links", "operation", "mode"] 2 ["mode"] [.str "free"]
  n_admitted : Nm K mg "admitted" a.f_admitted
  F_admitted : ∃ fd, FunD K "admitted" "admitted" (defArgs s_admitted) (defBody s_admitted) (defScope s_admitted) [] [("mode", .str "free")] a.f_admitted fd ∧ KwOk K fd ["links", "mode"] 1 ["mode"] [.str "free"]
  n__law_purse : Nm K mg "_law_purse" a.f__law_purse
  F__law_purse : ∃ fd, Fun K "_law_purse" "_law_purse" s__law_purse a.f__law_purse fd ∧ Binds K fd ["_law_script"] []
  n__law_take : Nm K mg "_law_take" a.f__law_take
  F__law_take : ∃ fd, Fun K "_law_take" "_law_take" s__law_take a.f__law_take fd ∧ Binds K fd ["_law_purse_here", "_law_many"] []
  n__law_words : Nm K mg "_law_words" a.f__law_words
  F__law_words : ∃ fd, Fun K "_law_words" "_law_words" s__law_words a.f__law_words fd ∧ Binds K fd [] []
  n__law_is : Nm K mg "_law_is" a.f__law_is
  F__law_is : ∃ fd, Fun K "_law_is" "_law_is" s__law_is a.f__law_is fd ∧ Binds K fd ["_law_told", "_law_due"] []
  n__law_ints : Nm K mg "_law_ints" a.f__law_ints
  F__law_ints : ∃ fd, Fun K "_law_ints" "_law_ints" s__law_ints a.f__law_ints fd ∧ Binds K fd ["_law_told", "_law_due"] []
  n__law_truth : Nm K mg "_law_truth" a.f__law_truth
  F__law_truth : ∃ fd, Fun K "_law_truth" "_law_truth" s__law_truth a.f__law_truth fd ∧ Binds K fd ["_law_told", "_law_due"] []
  n__law_whole : Nm K mg "_law_whole" a.f__law_whole
  F__law_whole : ∃ fd, Fun K "_law_whole" "_law_whole" s__law_whole a.f__law_whole fd ∧ Binds K fd ["_law_size"] []
  n__law_operation : Nm K mg "_law_operation" a.f__law_operation
  F__law_operation : ∃ fd, Fun K "_law_operation" "_law_operation" s__law_operation a.f__law_operation fd ∧ Binds K fd ["_law_book", "_law_node"] []
  n__law_moved : Nm K mg "_law_moved" a.f__law_moved
  F__law_moved : ∃ fd, Fun K "_law_moved" "_law_moved" s__law_moved a.f__law_moved fd ∧ Binds K fd ["_law_book", "_law_node"] []
  n__law_dump : Nm K mg "_law_dump" a.f__law_dump
  F__law_dump : ∃ fd, Fun K "_law_dump" "_law_dump" s__law_dump a.f__law_dump fd ∧ Binds K fd ["_law_book"] []
  n__law_lost : Nm K mg "_law_lost" a.f__law_lost
  F__law_lost : ∃ fd, Fun K "_law_lost" "_law_lost" s__law_lost a.f__law_lost fd ∧ Binds K fd ["_law_book"] []
  n__law_refusing : Nm K mg "_law_refusing" a.f__law_refusing
  F__law_refusing : ∃ fd, Fun K "_law_refusing" "_law_refusing" s__law_refusing a.f__law_refusing fd ∧ Binds K fd ["_law_book", "_law_node", "_law_word"] []
  n__law_any : Nm K mg "_law_any" a.f__law_any
  F__law_any : ∃ fd, Fun K "_law_any" "_law_any" s__law_any a.f__law_any fd ∧ Binds K fd ["_law_purse_here", "_law_size"] []
  n__law_run : Nm K mg "_law_run" a.f__law_run
  F__law_run : ∃ fd, Fun K "_law_run" "_law_run" s__law_run a.f__law_run fd ∧ Binds K fd ["_law_purse_here", "_law_book", "_law_shift", "_law_many", "_law_word"] []
  n__law_kinds : Nm K mg "_law_kinds" a.f__law_kinds
  F__law_kinds : ∃ fd, Fun K "_law_kinds" "_law_kinds" s__law_kinds a.f__law_kinds fd ∧ Binds K fd ["_law_purse_here"] []
  n__law_asked : Nm K mg "_law_asked" a.f__law_asked
  F__law_asked : ∃ fd, Fun K "_law_asked" "_law_asked" s__law_asked a.f__law_asked fd ∧ Binds K fd ["_law_book", "_law_held", "_law_kinds_here", "_law_nodes"] []
  n__law_listed : Nm K mg "_law_listed" a.f__law_listed
  F__law_listed : ∃ fd, Fun K "_law_listed" "_law_listed" s__law_listed a.f__law_listed fd ∧ Binds K fd ["_law_book", "_law_held", "_law_word"] []
  n__law_wrong : Nm K mg "_law_wrong" a.f__law_wrong
  F__law_wrong : ∃ fd, Fun K "_law_wrong" "_law_wrong" s__law_wrong a.f__law_wrong fd ∧ Binds K fd ["_law_purse_here", "_law_book"] []
  n__law_refused : Nm K mg "_law_refused" a.f__law_refused
  F__law_refused : ∃ fd, Fun K "_law_refused" "_law_refused" s__law_refused a.f__law_refused fd ∧ Binds K fd ["_law_kind", "_law_held", "_law_operation_here"] []
  n__law_barred : Nm K mg "_law_barred" a.f__law_barred
  F__law_barred : ∃ fd, Fun K "_law_barred" "_law_barred" s__law_barred a.f__law_barred fd ∧ Binds K fd ["_law_held", "_law_operation_here", "_law_word"] []
  n__law_no_mode : Nm K mg "_law_no_mode" a.f__law_no_mode
  F__law_no_mode : ∃ fd, Fun K "_law_no_mode" "_law_no_mode" s__law_no_mode a.f__law_no_mode fd ∧ Binds K fd ["_law_way", "_law_held", "_law_operation_here", "_law_wrong_here"] []
  n__law_text : Nm K mg "_law_text" a.f__law_text
  F__law_text : ∃ fd, Fun K "_law_text" "_law_text" s__law_text a.f__law_text fd ∧ Binds K fd ["_law_purse_here"] []
  n__law_turn : Nm K mg "_law_turn" a.f__law_turn
  F__law_turn : ∃ fd, Fun K "_law_turn" "_law_turn" s__law_turn a.f__law_turn fd ∧ Binds K fd ["_law_purse_here", "_law_book", "_law_held", "_law_kinds_here", "_law_nodes"] []
  n__law_led : Nm K mg "_law_led" a.f__law_led
  F__law_led : ∃ fd, Fun K "_law_led" "_law_led" s__law_led a.f__law_led fd ∧ Binds K fd ["_law_purse_here", "_law_reached", "_law_kinds_here"] []
  n_law : Nm K mg "law" a.f_law
  F_law : ∃ fd, Fun K "law" "law" s_law a.f_law fd ∧ Binds K fd ["_law_script"] []
  c_Links : mg "Links" = some (.ref a.Links)
  cl_Links : Cls K a.Links
  mk_Links : Mk K a.Links a.f_Links___init__
  rd_Links : ClX.CRead K a.Links (.type "type")
  na_Links_size : NoAttr K a.Links "size"
  na_Links__lefts : NoAttr K a.Links "_lefts"
  na_Links__rights : NoAttr K a.Links "_rights"
  na_Links__flags : NoAttr K a.Links "_flags"
  cv_Links_MOST : ∃ t, ClX.CVal K a.Links (.type "type") "MOST" (.int 60) (.int 60 t)
  c_FreeMode : mg "FreeMode" = some (.ref a.FreeMode)
  cl_FreeMode : Cls K a.FreeMode
  in_FreeMode : C8.InsC K a.FreeMode
  rd_FreeMode : ClX.CRead K a.FreeMode (.type "type")
  cv_FreeMode_NAME : ∃ t, ClX.CVal K a.FreeMode (.type "type") "NAME" (.str "free") (.str "free" t)
  m0_FreeMode : Mk0 K a.FreeMode
  kd_FreeMode_FreeMode : PySem.W.kitOne K (.ref a.FreeMode) (.ref a.FreeMode) = some true
  kd_SavingMode_FreeMode : PySem.W.kitOne K (.ref a.SavingMode) (.ref a.FreeMode) = some true
  kd_GuardedMode_FreeMode : PySem.W.kitOne K (.ref a.GuardedMode) (.ref a.FreeMode) = some true
  kd_CheckedMode_FreeMode : PySem.W.kitOne K (.ref a.CheckedMode) (.ref a.FreeMode) = some true
  cn_FreeMode_NAME : ∃ u, Con K a.FreeMode "NAME" (.str "free") u
  c_SavingMode : mg "SavingMode" = some (.ref a.SavingMode)
  cl_SavingMode : Cls K a.SavingMode
  in_SavingMode : C8.InsC K a.SavingMode
  rd_SavingMode : ClX.CRead K a.SavingMode (.type "type")
  cv_SavingMode_NAME : ∃ t, ClX.CVal K a.SavingMode (.type "type") "NAME" (.str "saving") (.str "saving" t)
  m0_SavingMode : Mk0 K a.SavingMode
  kd_FreeMode_SavingMode : PySem.W.kitOne K (.ref a.FreeMode) (.ref a.SavingMode) = some false
  kd_SavingMode_SavingMode : PySem.W.kitOne K (.ref a.SavingMode) (.ref a.SavingMode) = some true
  kd_GuardedMode_SavingMode : PySem.W.kitOne K (.ref a.GuardedMode) (.ref a.SavingMode) = some true
  kd_CheckedMode_SavingMode : PySem.W.kitOne K (.ref a.CheckedMode) (.ref a.SavingMode) = some true
  cn_SavingMode_NAME : ∃ u, Con K a.SavingMode "NAME" (.str "saving") u
  c_GuardedMode : mg "GuardedMode" = some (.ref a.GuardedMode)
  cl_GuardedMode : Cls K a.GuardedMode
  in_GuardedMode : C8.InsC K a.GuardedMode
  rd_GuardedMode : ClX.CRead K a.GuardedMode (.type "type")
  cv_GuardedMode_NAME : ∃ t, ClX.CVal K a.GuardedMode (.type "type") "NAME" (.str "guarded") (.str "guarded" t)
  m0_GuardedMode : Mk0 K a.GuardedMode
  kd_FreeMode_GuardedMode : PySem.W.kitOne K (.ref a.FreeMode) (.ref a.GuardedMode) = some false
  kd_SavingMode_GuardedMode : PySem.W.kitOne K (.ref a.SavingMode) (.ref a.GuardedMode) = some false
  kd_GuardedMode_GuardedMode : PySem.W.kitOne K (.ref a.GuardedMode) (.ref a.GuardedMode) = some true
  kd_CheckedMode_GuardedMode : PySem.W.kitOne K (.ref a.CheckedMode) (.ref a.GuardedMode) = some true
  cn_GuardedMode_NAME : ∃ u, Con K a.GuardedMode "NAME" (.str "guarded") u
  c_CheckedMode : mg "CheckedMode" = some (.ref a.CheckedMode)
  cl_CheckedMode : Cls K a.CheckedMode
  in_CheckedMode : C8.InsC K a.CheckedMode
  rd_CheckedMode : ClX.CRead K a.CheckedMode (.type "type")
  cv_CheckedMode_NAME : ∃ t, ClX.CVal K a.CheckedMode (.type "type") "NAME" (.str "checked") (.str "checked" t)
  m0_CheckedMode : Mk0 K a.CheckedMode
  kd_FreeMode_CheckedMode : PySem.W.kitOne K (.ref a.FreeMode) (.ref a.CheckedMode) = some false
  kd_SavingMode_CheckedMode : PySem.W.kitOne K (.ref a.SavingMode) (.ref a.CheckedMode) = some false
  kd_GuardedMode_CheckedMode : PySem.W.kitOne K (.ref a.GuardedMode) (.ref a.CheckedMode) = some false
  kd_CheckedMode_CheckedMode : PySem.W.kitOne K (.ref a.CheckedMode) (.ref a.CheckedMode) = some true
  cn_CheckedMode_NAME : ∃ u, Con K a.CheckedMode "NAME" (.str "checked") u
  F_Links___init__ : ∃ fd, Fun K "__init__" "Links.__init__" s_Links___init__ a.f_Links___init__ fd ∧ Binds K fd ["self", "size"] []
  st_Links_built : ∃ p, CSta K a.Links "built" p a.f_Links_built
  F_Links_built : ∃ fd, Fun K "built" "Links.built" s_Links_built a.f_Links_built fd ∧ Binds K fd ["size", "lefts", "rights", "flags"] []
  st_Links_read : ∃ p, CSta K a.Links "read" p a.f_Links_read
  F_Links_read : ∃ fd, Fun K "read" "Links.read" s_Links_read a.f_Links_read fd ∧ Binds K fd ["text"] []
  me_Links_left : Meth K a.Links "left" a.f_Links_left
  F_Links_left : ∃ fd, Fun K "left" "Links.left" s_Links_left a.f_Links_left fd ∧ Binds K fd ["self", "node"] []
  me_Links_right : Meth K a.Links "right" a.f_Links_right
  F_Links_right : ∃ fd, Fun K "right" "Links.right" s_Links_right a.f_Links_right fd ∧ Binds K fd ["self", "node"] []
  me_Links_is_out : Meth K a.Links "is_out" a.f_Links_is_out
  F_Links_is_out : ∃ fd, Fun K "is_out" "Links.is_out" s_Links_is_out a.f_Links_is_out fd ∧ Binds K fd ["self", "node"] []
  me_Links_operation_on : Meth K a.Links "operation_on" a.f_Links_operation_on
  F_Links_operation_on : ∃ fd, Fun K "operation_on" "Links.operation_on" s_Links_operation_on a.f_Links_operation_on fd ∧ Binds K fd ["self", "node"] []
  me_Links_apply : Meth K a.Links "apply" a.f_Links_apply
  F_Links_apply : ∃ fd, Fun K "apply" "Links.apply" s_Links_apply a.f_Links_apply fd ∧ Binds K fd ["self", "operation"] []
  me_Links_apply_at : Meth K a.Links "apply_at" a.f_Links_apply_at
  F_Links_apply_at : ∃ fd, Fun K "apply_at" "Links.apply_at" s_Links_apply_at a.f_Links_apply_at fd ∧ Binds K fd ["self", "operation", "index"] []
  me_Links_dump : Meth K a.Links "dump" a.f_Links_dump
  F_Links_dump : ∃ fd, Fun K "dump" "Links.dump" s_Links_dump a.f_Links_dump fd ∧ Binds K fd ["self"] []
  me_Links__dump_parts : Meth K a.Links "_dump_parts" a.f_Links__dump_parts
  F_Links__dump_parts : ∃ fd, Fun K "_dump_parts" "Links._dump_parts" s_Links__dump_parts a.f_Links__dump_parts fd ∧ Binds K fd ["self"] []
  me_FreeMode_refusal : Meth K a.FreeMode "refusal" a.f_FreeMode_refusal
  F_FreeMode_refusal : ∃ fd, Fun K "refusal" "FreeMode.refusal" s_FreeMode_refusal a.f_FreeMode_refusal fd ∧ Binds K fd ["self", "links", "operation"] []
  me_SavingMode_refusal : Meth K a.SavingMode "refusal" a.f_SavingMode_refusal
  sf_SavingMode_refusal : SupFn P K a.SavingMode a.f_SavingMode_refusal "refusal" "SavingMode.refusal" s_SavingMode_refusal ["self", "links", "operation"]
  sa_SavingMode_refusal_SavingMode : SupAt K a.SavingMode a.SavingMode "refusal" a.f_FreeMode_refusal
  sa_SavingMode_refusal_GuardedMode : SupAt K a.SavingMode a.GuardedMode "refusal" a.f_FreeMode_refusal
  sa_SavingMode_refusal_CheckedMode : SupAt K a.SavingMode a.CheckedMode "refusal" a.f_FreeMode_refusal
  me_GuardedMode_refusal : Meth K a.GuardedMode "refusal" a.f_GuardedMode_refusal
  sf_GuardedMode_refusal : SupFn P K a.GuardedMode a.f_GuardedMode_refusal "refusal" "GuardedMode.refusal" s_GuardedMode_refusal ["self", "links", "operation"]
  sa_GuardedMode_refusal_GuardedMode : SupAt K a.GuardedMode a.GuardedMode "refusal" a.f_SavingMode_refusal
  sa_GuardedMode_refusal_CheckedMode : SupAt K a.GuardedMode a.CheckedMode "refusal" a.f_SavingMode_refusal
  me_CheckedMode_refusal : Meth K a.CheckedMode "refusal" a.f_CheckedMode_refusal
  sf_CheckedMode_refusal : SupFn P K a.CheckedMode a.f_CheckedMode_refusal "refusal" "CheckedMode.refusal" s_CheckedMode_refusal ["self", "links", "operation"]
  sa_CheckedMode_refusal_CheckedMode : SupAt K a.CheckedMode a.CheckedMode "refusal" a.f_GuardedMode_refusal
  c_LinkError : mg "LinkError" = some (.ref a.LinkError)
  c_LogError : mg "LogError" = some (.ref a.LogError)
  c_BadOperation : mg "BadOperation" = some (.ref a.BadOperation)
  x_BadOperation : LkX.ExcTxt P K a.BadOperation a.i_BadOperation ["operation", "index"]
  e_BadOperation : ExcC K a.BadOperation ∧ XfC K a.BadOperation
  c_Illegal : mg "Illegal" = some (.ref a.Illegal)
  x_Illegal : LkX.ExcTxt P K a.Illegal a.i_Illegal ["operation", "index"]
  e_Illegal : ExcC K a.Illegal ∧ XfC K a.Illegal
  c_BadSize : mg "BadSize" = some (.ref a.BadSize)
  x_BadSize : LkX.ExcTxt P K a.BadSize a.i_BadSize ["size"]
  e_BadSize : ExcC K a.BadSize ∧ XfC K a.BadSize
  c_BadNode : mg "BadNode" = some (.ref a.BadNode)
  x_BadNode : LkX.ExcTxt P K a.BadNode a.i_BadNode ["node"]
  e_BadNode : ExcC K a.BadNode ∧ XfC K a.BadNode
  c_BadMode : mg "BadMode" = some (.ref a.BadMode)
  x_BadMode : LkX.ExcTxt P K a.BadMode a.i_BadMode ["name"]
  e_BadMode : ExcC K a.BadMode ∧ XfC K a.BadMode
  c_BadDump : mg "BadDump" = some (.ref a.BadDump)
  x_BadDump : LkX.ExcTxt P K a.BadDump a.i_BadDump ["part"]
  e_BadDump : ExcC K a.BadDump ∧ XfC K a.BadDump
  t_BadOperation_LinkError : PySem.W.kitOne K (.ref a.BadOperation) (.ref a.LinkError) = some true ∧ PySem.W.exmOne K (.ref a.BadOperation) (.ref a.LinkError) = some true
  t_BadOperation_LogError : PySem.W.kitOne K (.ref a.BadOperation) (.ref a.LogError) = some true ∧ PySem.W.exmOne K (.ref a.BadOperation) (.ref a.LogError) = some true
  t_BadOperation_BadOperation : PySem.W.kitOne K (.ref a.BadOperation) (.ref a.BadOperation) = some true ∧ PySem.W.exmOne K (.ref a.BadOperation) (.ref a.BadOperation) = some true
  t_BadOperation_Illegal : PySem.W.kitOne K (.ref a.BadOperation) (.ref a.Illegal) = some false ∧ PySem.W.exmOne K (.ref a.BadOperation) (.ref a.Illegal) = some false
  t_BadOperation_BadSize : PySem.W.kitOne K (.ref a.BadOperation) (.ref a.BadSize) = some false ∧ PySem.W.exmOne K (.ref a.BadOperation) (.ref a.BadSize) = some false
  t_BadOperation_BadNode : PySem.W.kitOne K (.ref a.BadOperation) (.ref a.BadNode) = some false ∧ PySem.W.exmOne K (.ref a.BadOperation) (.ref a.BadNode) = some false
  t_BadOperation_BadMode : PySem.W.kitOne K (.ref a.BadOperation) (.ref a.BadMode) = some false ∧ PySem.W.exmOne K (.ref a.BadOperation) (.ref a.BadMode) = some false
  t_BadOperation_BadDump : PySem.W.kitOne K (.ref a.BadOperation) (.ref a.BadDump) = some false ∧ PySem.W.exmOne K (.ref a.BadOperation) (.ref a.BadDump) = some false
  v_BadOperation : PySem.W.kitOne K (.ref a.BadOperation) (.type "ValueError") = some true
  t_Illegal_LinkError : PySem.W.kitOne K (.ref a.Illegal) (.ref a.LinkError) = some true ∧ PySem.W.exmOne K (.ref a.Illegal) (.ref a.LinkError) = some true
  t_Illegal_LogError : PySem.W.kitOne K (.ref a.Illegal) (.ref a.LogError) = some true ∧ PySem.W.exmOne K (.ref a.Illegal) (.ref a.LogError) = some true
  t_Illegal_BadOperation : PySem.W.kitOne K (.ref a.Illegal) (.ref a.BadOperation) = some false ∧ PySem.W.exmOne K (.ref a.Illegal) (.ref a.BadOperation) = some false
  t_Illegal_Illegal : PySem.W.kitOne K (.ref a.Illegal) (.ref a.Illegal) = some true ∧ PySem.W.exmOne K (.ref a.Illegal) (.ref a.Illegal) = some true
  t_Illegal_BadSize : PySem.W.kitOne K (.ref a.Illegal) (.ref a.BadSize) = some false ∧ PySem.W.exmOne K (.ref a.Illegal) (.ref a.BadSize) = some false
  t_Illegal_BadNode : PySem.W.kitOne K (.ref a.Illegal) (.ref a.BadNode) = some false ∧ PySem.W.exmOne K (.ref a.Illegal) (.ref a.BadNode) = some false
  t_Illegal_BadMode : PySem.W.kitOne K (.ref a.Illegal) (.ref a.BadMode) = some false ∧ PySem.W.exmOne K (.ref a.Illegal) (.ref a.BadMode) = some false
  t_Illegal_BadDump : PySem.W.kitOne K (.ref a.Illegal) (.ref a.BadDump) = some false ∧ PySem.W.exmOne K (.ref a.Illegal) (.ref a.BadDump) = some false
  v_Illegal : PySem.W.kitOne K (.ref a.Illegal) (.type "ValueError") = some true
  t_BadSize_LinkError : PySem.W.kitOne K (.ref a.BadSize) (.ref a.LinkError) = some true ∧ PySem.W.exmOne K (.ref a.BadSize) (.ref a.LinkError) = some true
  t_BadSize_LogError : PySem.W.kitOne K (.ref a.BadSize) (.ref a.LogError) = some false ∧ PySem.W.exmOne K (.ref a.BadSize) (.ref a.LogError) = some false
  t_BadSize_BadOperation : PySem.W.kitOne K (.ref a.BadSize) (.ref a.BadOperation) = some false ∧ PySem.W.exmOne K (.ref a.BadSize) (.ref a.BadOperation) = some false
  t_BadSize_Illegal : PySem.W.kitOne K (.ref a.BadSize) (.ref a.Illegal) = some false ∧ PySem.W.exmOne K (.ref a.BadSize) (.ref a.Illegal) = some false
  t_BadSize_BadSize : PySem.W.kitOne K (.ref a.BadSize) (.ref a.BadSize) = some true ∧ PySem.W.exmOne K (.ref a.BadSize) (.ref a.BadSize) = some true
  t_BadSize_BadNode : PySem.W.kitOne K (.ref a.BadSize) (.ref a.BadNode) = some false ∧ PySem.W.exmOne K (.ref a.BadSize) (.ref a.BadNode) = some false
  t_BadSize_BadMode : PySem.W.kitOne K (.ref a.BadSize) (.ref a.BadMode) = some false ∧ PySem.W.exmOne K (.ref a.BadSize) (.ref a.BadMode) = some false
  t_BadSize_BadDump : PySem.W.kitOne K (.ref a.BadSize) (.ref a.BadDump) = some false ∧ PySem.W.exmOne K (.ref a.BadSize) (.ref a.BadDump) = some false
  v_BadSize : PySem.W.kitOne K (.ref a.BadSize) (.type "ValueError") = some true
  t_BadNode_LinkError : PySem.W.kitOne K (.ref a.BadNode) (.ref a.LinkError) = some true ∧ PySem.W.exmOne K (.ref a.BadNode) (.ref a.LinkError) = some true
  t_BadNode_LogError : PySem.W.kitOne K (.ref a.BadNode) (.ref a.LogError) = some false ∧ PySem.W.exmOne K (.ref a.BadNode) (.ref a.LogError) = some false
  t_BadNode_BadOperation : PySem.W.kitOne K (.ref a.BadNode) (.ref a.BadOperation) = some false ∧ PySem.W.exmOne K (.ref a.BadNode) (.ref a.BadOperation) = some false
  t_BadNode_Illegal : PySem.W.kitOne K (.ref a.BadNode) (.ref a.Illegal) = some false ∧ PySem.W.exmOne K (.ref a.BadNode) (.ref a.Illegal) = some false
  t_BadNode_BadSize : PySem.W.kitOne K (.ref a.BadNode) (.ref a.BadSize) = some false ∧ PySem.W.exmOne K (.ref a.BadNode) (.ref a.BadSize) = some false
  t_BadNode_BadNode : PySem.W.kitOne K (.ref a.BadNode) (.ref a.BadNode) = some true ∧ PySem.W.exmOne K (.ref a.BadNode) (.ref a.BadNode) = some true
  t_BadNode_BadMode : PySem.W.kitOne K (.ref a.BadNode) (.ref a.BadMode) = some false ∧ PySem.W.exmOne K (.ref a.BadNode) (.ref a.BadMode) = some false
  t_BadNode_BadDump : PySem.W.kitOne K (.ref a.BadNode) (.ref a.BadDump) = some false ∧ PySem.W.exmOne K (.ref a.BadNode) (.ref a.BadDump) = some false
  v_BadNode : PySem.W.kitOne K (.ref a.BadNode) (.type "ValueError") = some true
  t_BadMode_LinkError : PySem.W.kitOne K (.ref a.BadMode) (.ref a.LinkError) = some true ∧ PySem.W.exmOne K (.ref a.BadMode) (.ref a.LinkError) = some true
  t_BadMode_LogError : PySem.W.kitOne K (.ref a.BadMode) (.ref a.LogError) = some false ∧ PySem.W.exmOne K (.ref a.BadMode) (.ref a.LogError) = some false
  t_BadMode_BadOperation : PySem.W.kitOne K (.ref a.BadMode) (.ref a.BadOperation) = some false ∧ PySem.W.exmOne K (.ref a.BadMode) (.ref a.BadOperation) = some false
  t_BadMode_Illegal : PySem.W.kitOne K (.ref a.BadMode) (.ref a.Illegal) = some false ∧ PySem.W.exmOne K (.ref a.BadMode) (.ref a.Illegal) = some false
  t_BadMode_BadSize : PySem.W.kitOne K (.ref a.BadMode) (.ref a.BadSize) = some false ∧ PySem.W.exmOne K (.ref a.BadMode) (.ref a.BadSize) = some false
  t_BadMode_BadNode : PySem.W.kitOne K (.ref a.BadMode) (.ref a.BadNode) = some false ∧ PySem.W.exmOne K (.ref a.BadMode) (.ref a.BadNode) = some false
  t_BadMode_BadMode : PySem.W.kitOne K (.ref a.BadMode) (.ref a.BadMode) = some true ∧ PySem.W.exmOne K (.ref a.BadMode) (.ref a.BadMode) = some true
  t_BadMode_BadDump : PySem.W.kitOne K (.ref a.BadMode) (.ref a.BadDump) = some false ∧ PySem.W.exmOne K (.ref a.BadMode) (.ref a.BadDump) = some false
  v_BadMode : PySem.W.kitOne K (.ref a.BadMode) (.type "ValueError") = some true
  t_BadDump_LinkError : PySem.W.kitOne K (.ref a.BadDump) (.ref a.LinkError) = some true ∧ PySem.W.exmOne K (.ref a.BadDump) (.ref a.LinkError) = some true
  t_BadDump_LogError : PySem.W.kitOne K (.ref a.BadDump) (.ref a.LogError) = some false ∧ PySem.W.exmOne K (.ref a.BadDump) (.ref a.LogError) = some false
  t_BadDump_BadOperation : PySem.W.kitOne K (.ref a.BadDump) (.ref a.BadOperation) = some false ∧ PySem.W.exmOne K (.ref a.BadDump) (.ref a.BadOperation) = some false
  t_BadDump_Illegal : PySem.W.kitOne K (.ref a.BadDump) (.ref a.Illegal) = some false ∧ PySem.W.exmOne K (.ref a.BadDump) (.ref a.Illegal) = some false
  t_BadDump_BadSize : PySem.W.kitOne K (.ref a.BadDump) (.ref a.BadSize) = some false ∧ PySem.W.exmOne K (.ref a.BadDump) (.ref a.BadSize) = some false
  t_BadDump_BadNode : PySem.W.kitOne K (.ref a.BadDump) (.ref a.BadNode) = some false ∧ PySem.W.exmOne K (.ref a.BadDump) (.ref a.BadNode) = some false
  t_BadDump_BadMode : PySem.W.kitOne K (.ref a.BadDump) (.ref a.BadMode) = some false ∧ PySem.W.exmOne K (.ref a.BadDump) (.ref a.BadMode) = some false
  t_BadDump_BadDump : PySem.W.kitOne K (.ref a.BadDump) (.ref a.BadDump) = some true ∧ PySem.W.exmOne K (.ref a.BadDump) (.ref a.BadDump) = some true
  v_BadDump : PySem.W.kitOne K (.ref a.BadDump) (.type "ValueError") = some true
  b_ValueError : mg "ValueError" = none
  b_abs : mg "abs" = none
  b_enumerate : mg "enumerate" = none
  b_range : mg "range" = none
  b_list : mg "list" = none
  b_min : mg "min" = none
  b_int : mg "int" = none
  b_len : mg "len" = none
  b_isinstance : mg "isinstance" = none
  b_str : mg "str" = none
  b_max : mg "max" = none
  b_bool : mg "bool" = none
  b_super : mg "super" = none
  k_MOST_NODES : ∃ t, mg "MOST_NODES" = some (.int 60 t)
  k_MOST_DIGITS : ∃ t, mg "MOST_DIGITS" = some (.int 9 t)
  k_PARTS : ∃ t, mg "PARTS" = some (.int 3 t)
  k_MODES : mg "MODES" = some (.ref a.k_MODES) ∧ ∀ H : Hp, SqT K H a.k_MODES ((["free", "saving", "guarded", "checked"] : List Str).map V.str)
def xBadOperation (a : AD) (v0 : V) (v1 : V) (E : XK) (H : Hp) : Prop := ∀ d H', H d = none → H' d = some (.xd [("operation", v0), ("index", v1)]) → Kp [] H H' → E (.ref a.BadOperation) (some d) H'
def xIllegal (a : AD) (v0 : V) (v1 : V) (E : XK) (H : Hp) : Prop := ∀ d H', H d = none → H' d = some (.xd [("operation", v0), ("index", v1)]) → Kp [] H H' → E (.ref a.Illegal) (some d) H'
def xBadSize (a : AD) (v0 : V) (E : XK) (H : Hp) : Prop := ∀ d H', H d = none → H' d = some (.xd [("size", v0)]) → Kp [] H H' → E (.ref a.BadSize) (some d) H'
def xBadNode (a : AD) (v0 : V) (E : XK) (H : Hp) : Prop := ∀ d H', H d = none → H' d = some (.xd [("node", v0)]) → Kp [] H H' → E (.ref a.BadNode) (some d) H'
def xBadMode (a : AD) (v0 : V) (E : XK) (H : Hp) : Prop := ∀ d H', H d = none → H' d = some (.xd [("name", v0)]) → Kp [] H H' → E (.ref a.BadMode) (some d) H'
def xBadDump (a : AD) (v0 : V) (E : XK) (H : Hp) : Prop := ∀ d H', H d = none → H' d = some (.xd [("part", v0)]) → Kp [] H H' → E (.ref a.BadDump) (some d) H'
local macro_rules | `(tactic| walk_at "in") => `(tactic| with_reducible first | exact Txt.in_FreeMode (by assumption) | exact Txt.in_SavingMode (by assumption) | exact Txt.in_GuardedMode (by assumption) | exact Txt.in_CheckedMode (by assumption))
local macro_rules | `(tactic| walk_at "kd") => `(tactic| with_reducible first | exact Txt.kd_FreeMode_FreeMode (by assumption) | exact Txt.kd_SavingMode_FreeMode (by assumption) | exact Txt.kd_GuardedMode_FreeMode (by assumption) | exact Txt.kd_CheckedMode_FreeMode (by assumption) | exact Txt.kd_FreeMode_SavingMode (by assumption) | exact Txt.kd_SavingMode_SavingMode (by assumption) | exact Txt.kd_GuardedMode_SavingMode (by assumption) | exact Txt.kd_CheckedMode_SavingMode (by assumption) | exact Txt.kd_FreeMode_GuardedMode (by assumption) | exact Txt.kd_SavingMode_GuardedMode (by assumption) | exact Txt.kd_GuardedMode_GuardedMode (by assumption) | exact Txt.kd_CheckedMode_GuardedMode (by assumption) | exact Txt.kd_FreeMode_CheckedMode (by assumption) | exact Txt.kd_SavingMode_CheckedMode (by assumption) | exact Txt.kd_GuardedMode_CheckedMode (by assumption) | exact Txt.kd_CheckedMode_CheckedMode (by assumption))
local macro_rules | `(tactic| walk_at "cn") => `(tactic| with_reducible first | exact Txt.cn_FreeMode_NAME (by assumption) | exact Txt.cn_SavingMode_NAME (by assumption) | exact Txt.cn_GuardedMode_NAME (by assumption) | exact Txt.cn_CheckedMode_NAME (by assumption))
local macro_rules | `(tactic| walk_at "ef") => `(tactic| with_reducible first | exact (Txt.e_BadOperation (by assumption)).1 | exact (Txt.e_BadOperation (by assumption)).2 | exact (Txt.e_Illegal (by assumption)).1 | exact (Txt.e_Illegal (by assumption)).2 | exact (Txt.e_BadSize (by assumption)).1 | exact (Txt.e_BadSize (by assumption)).2 | exact (Txt.e_BadNode (by assumption)).1 | exact (Txt.e_BadNode (by assumption)).2 | exact (Txt.e_BadMode (by assumption)).1 | exact (Txt.e_BadMode (by assumption)).2 | exact (Txt.e_BadDump (by assumption)).1 | exact (Txt.e_BadDump (by assumption)).2)
local macro_rules | `(tactic| walk_at "et") => `(tactic| with_reducible first | exact Txt.v_BadOperation (by assumption) | exact (Txt.t_BadOperation_LinkError (by assumption)).1 | exact (Txt.t_BadOperation_LogError (by assumption)).1 | exact (Txt.t_BadOperation_BadOperation (by assumption)).1 | exact (Txt.t_BadOperation_Illegal (by assumption)).1 | exact (Txt.t_BadOperation_BadSize (by assumption)).1 | exact (Txt.t_BadOperation_BadNode (by assumption)).1 | exact (Txt.t_BadOperation_BadMode (by assumption)).1 | exact (Txt.t_BadOperation_BadDump (by assumption)).1 | exact Txt.v_Illegal (by assumption) | exact (Txt.t_Illegal_LinkError (by assumption)).1 | exact (Txt.t_Illegal_LogError (by assumption)).1 | exact (Txt.t_Illegal_BadOperation (by assumption)).1 | exact (Txt.t_Illegal_Illegal (by assumption)).1 | exact (Txt.t_Illegal_BadSize (by assumption)).1 | exact (Txt.t_Illegal_BadNode (by assumption)).1 | exact (Txt.t_Illegal_BadMode (by assumption)).1 | exact (Txt.t_Illegal_BadDump (by assumption)).1 | exact Txt.v_BadSize (by assumption) | exact (Txt.t_BadSize_LinkError (by assumption)).1 | exact (Txt.t_BadSize_LogError (by assumption)).1 | exact (Txt.t_BadSize_BadOperation (by assumption)).1 | exact (Txt.t_BadSize_Illegal (by assumption)).1 | exact (Txt.t_BadSize_BadSize (by assumption)).1 | exact (Txt.t_BadSize_BadNode (by assumption)).1 | exact (Txt.t_BadSize_BadMode (by assumption)).1 | exact (Txt.t_BadSize_BadDump (by assumption)).1 | exact Txt.v_BadNode (by assumption) | exact (Txt.t_BadNode_LinkError (by assumption)).1 | exact (Txt.t_BadNode_LogError (by assumption)).1 | exact (Txt.t_BadNode_BadOperation (by assumption)).1 | exact (Txt.t_BadNode_Illegal (by assumption)).1 | exact (Txt.t_BadNode_BadSize (by assumption)).1 | exact (Txt.t_BadNode_BadNode (by assumption)).1 | exact (Txt.t_BadNode_BadMode (by assumption)).1 | exact (Txt.t_BadNode_BadDump (by assumption)).1 | exact Txt.v_BadMode (by assumption) | exact (Txt.t_BadMode_LinkError (by assumption)).1 | exact (Txt.t_BadMode_LogError (by assumption)).1 | exact (Txt.t_BadMode_BadOperation (by assumption)).1 | exact (Txt.t_BadMode_Illegal (by assumption)).1 | exact (Txt.t_BadMode_BadSize (by assumption)).1 | exact (Txt.t_BadMode_BadNode (by assumption)).1 | exact (Txt.t_BadMode_BadMode (by assumption)).1 | exact (Txt.t_BadMode_BadDump (by assumption)).1 | exact Txt.v_BadDump (by assumption) | exact (Txt.t_BadDump_LinkError (by assumption)).1 | exact (Txt.t_BadDump_LogError (by assumption)).1 | exact (Txt.t_BadDump_BadOperation (by assumption)).1 | exact (Txt.t_BadDump_Illegal (by assumption)).1 | exact (Txt.t_BadDump_BadSize (by assumption)).1 | exact (Txt.t_BadDump_BadNode (by assumption)).1 | exact (Txt.t_BadDump_BadMode (by assumption)).1 | exact (Txt.t_BadDump_BadDump (by assumption)).1)
local macro_rules | `(tactic| walk_at "fi") => `(tactic| with_reducible first | exact (Txt.x_BadOperation (by assumption)).noN _ (by decide) | exact (Txt.x_Illegal (by assumption)).noN _ (by decide) | exact (Txt.x_BadSize (by assumption)).noN _ (by decide) | exact (Txt.x_BadNode (by assumption)).noN _ (by decide) | exact (Txt.x_BadMode (by assumption)).noN _ (by decide) | exact (Txt.x_BadDump (by assumption)).noN _ (by decide))
local macro_rules | `(tactic| walk_at "cl") => `(tactic| with_reducible first | exact Txt.cl_Links (by assumption) | exact Txt.cl_FreeMode (by assumption) | exact Txt.cl_SavingMode (by assumption) | exact Txt.cl_GuardedMode (by assumption) | exact Txt.cl_CheckedMode (by assumption))
local macro_rules | `(tactic| walk_at "na") => `(tactic| with_reducible first | exact Txt.na_Links_size (by assumption) | exact Txt.na_Links__lefts (by assumption) | exact Txt.na_Links__rights (by assumption) | exact Txt.na_Links__flags (by assumption))
local macro_rules | `(tactic| walk_at "rd") => `(tactic| with_reducible first | exact Txt.rd_Links (by assumption) | exact Txt.rd_FreeMode (by assumption) | exact Txt.rd_SavingMode (by assumption) | exact Txt.rd_GuardedMode (by assumption) | exact Txt.rd_CheckedMode (by assumption))
local macro_rules | `(tactic| walk_at "cv") => `(tactic| with_reducible first | exact (Txt.cv_Links_MOST (by assumption)).choose_spec | exact (Txt.cv_FreeMode_NAME (by assumption)).choose_spec | exact (Txt.cv_SavingMode_NAME (by assumption)).choose_spec | exact (Txt.cv_GuardedMode_NAME (by assumption)).choose_spec | exact (Txt.cv_CheckedMode_NAME (by assumption)).choose_spec)
/-! ### what the checks ask -/
def IsOp (n o : Int) : Prop := o ≠ 0 ∧ (o.natAbs : Int) ≤ n
instance (n o : Int) : Decidable (IsOp n o) := inferInstanceAs (Decidable (_ ∧ _))
def sp_check_size (a : AD) : Sp := fun vs H Q E => ∃ n : Int, vs = [.int n] ∧ (¬(0 ≤ n ∧ n ≤ 60) → xBadSize a (.int n) E H) ∧ (0 ≤ n → n ≤ 60 → Q .non H)
def sp_check_operation (a : AD) : Sp := fun vs H Q E => ∃ n o i : Int, vs = [.int n, .int o, .int i] ∧ (¬IsOp n o → xBadOperation a (.int o) (.int i) E H) ∧ (IsOp n o → Q .non H)
theorem sc_check_size : FnScope ["size"] ["size"] (defScope s_check_size) := ⟨rfl, rfl, rfl, by decide +kernel, rfl, by decide +kernel, by decide +kernel⟩
theorem ok_check_size {P : Program} {w : World} {K : PySem.W.Frag} {mg : Str → Option Value} {base : Heap} {a : AD} (T : Txt P K mg a) : FnA P w K mg base 2 a.f_check_size ["size"] (sp_check_size a) := by
  obtain ⟨fd, F, b⟩ := T.F_check_size
  refine FnA.of F sc_check_size b (fun vs H Q E h => by first | (obtain ⟨rfl, _⟩ := h; rfl) | (obtain ⟨_, rfl, _⟩ := h; rfl) | (obtain ⟨_, _, rfl, _⟩ := h; rfl) | (obtain ⟨_, _, _, rfl, _⟩ := h; rfl) | (obtain ⟨_, _, _, _, rfl, _⟩ := h; rfl) | (obtain ⟨_, _, _, _, _, rfl, _⟩ := h; rfl) | (obtain ⟨_, _, _, _, _, _, rfl, _⟩ := h; rfl) | (obtain ⟨_, _, _, _, _, _, _, rfl, _⟩ := h; rfl) | (obtain ⟨_, _, _, _, _, _, _, _, rfl, _⟩ := h; rfl) | (obtain ⟨_, _, _, _, _, _, _, _, _, rfl, _⟩ := h; rfl) | (obtain ⟨_, _, _, _, _, _, _, _, _, _, rfl, _⟩ := h; rfl) | (obtain ⟨_, _, _, _, _, _, _, _, _, _, _, rfl, _⟩ := h; rfl) | (obtain ⟨_, _, _, _, _, _, _, _, _, _, _, _, rfl, _⟩ := h; rfl) | (obtain ⟨_, _, _, _, _, _, _, _, _, _, _, _, _, rfl, _⟩ := h; rfl) | (obtain ⟨_, _, _, _, _, _, _, _, _, _, _, _, _, _, rfl, _⟩ := h; rfl) | (obtain ⟨_, _, _, _, _, _, _, _, _, _, _, _, _, _, _, rfl, _⟩ := h; rfl) | (obtain ⟨_, _, _, _, _, _, _, _, _, _, _, _, _, _, _, _, rfl, _⟩ := h; rfl) | (obtain ⟨_, _, _, _, _, _, _, _, _, _, _, _, _, _, _, _, _, rfl, _⟩ := h; rfl) | (obtain ⟨_, _, _, _, _, _, _, _, _, _, _, _, _, _, _, _, _, _, rfl, _⟩ := h; rfl) | (obtain ⟨_, _, _, _, _, _, _, _, _, _, _, _, _, _, _, _, _, _, _, rfl, _⟩ := h; rfl) | (obtain ⟨_, _, _, _, _, _, _, _, _, _, _, _, _, _, _, _, _, _, _, _, rfl, _⟩ := h; rfl) | (obtain ⟨_, _, _, _, _, _, _, _, _, _, _, _, _, _, _, _, _, _, _, _, _, rfl, _⟩ := h; rfl) | (obtain ⟨_, _, _, _, _, _, _, _, _, _, _, _, _, _, _, _, _, _, _, _, _, _, rfl, _⟩ := h; rfl) | (obtain ⟨_, _, _, _, _, _, _, _, _, _, _, _, _, _, _, _, _, _, _, _, _, _, _, rfl, _⟩ := h; rfl)) (fun cdv A outer s H vs Q E hr tk pz h => ?_)
  have hu := hr.units
  have hrH := L2H.roomH_of hr
  obtain ⟨n, rfl, h1, h2⟩ := h
  refine ⟨_, (pss_one (ps_if (pt_not (pt_chainA op_le op_le pe_int (pv 0) (T.k_MOST_NODES.elim fun t hm => pe_glob (v := .int 60) rfl hm ⟨t, rfl⟩))) (pss_one (L2N.ps_raise rfl tk (Lk.pmk_own T.x_BadSize (List.cons_ne_nil _ _) hr T.c_BadSize (by exact (pa_cons (pv 0) pa_nil)) rfl))) pss_nil)), ?_⟩
  show (_ : Ends → L2.St → Hp → Prop) _ [some _] _
  try dsimp only [L2H.cxH, cxOf]
  walk_at "w"
  refine w_ite (fun c1 => ?_) (fun c1 => ?_)
  · walk_at "w"
    refine w_iteN (fun c2 => ?_) (fun c2 => ?_)
    · walk_at "w"
      refine ⟨rfl, fun d hd => h1 (fun z => c2 z.2) d _ hd upd_same (Kp.refl.new hd)⟩
    · walk_at "w"
      exact h2 c1 c2
  · walk_at "w"
    refine ⟨rfl, fun d hd => h1 (fun z => c1 z.1) d _ hd upd_same (Kp.refl.new hd)⟩
theorem sc_check_operation : FnScope ["size", "operation", "index"] ["size", "operation", "index"] (defScope s_check_operation) := ⟨rfl, rfl, rfl, by decide +kernel, rfl, by decide +kernel, by decide +kernel⟩
theorem ok_check_operation {P : Program} {w : World} {K : PySem.W.Frag} {mg : Str → Option Value} {base : Heap} {a : AD} (T : Txt P K mg a) : FnA P w K mg base 2 a.f_check_operation ["size", "operation", "index"] (sp_check_operation a) := by
  obtain ⟨fd, F, b⟩ := T.F_check_operation
  refine FnA.of F sc_check_operation b (fun vs H Q E h => by first | (obtain ⟨rfl, _⟩ := h; rfl) | (obtain ⟨_, rfl, _⟩ := h; rfl) | (obtain ⟨_, _, rfl, _⟩ := h; rfl) | (obtain ⟨_, _, _, rfl, _⟩ := h; rfl) | (obtain ⟨_, _, _, _, rfl, _⟩ := h; rfl) | (obtain ⟨_, _, _, _, _, rfl, _⟩ := h; rfl) | (obtain ⟨_, _, _, _, _, _, rfl, _⟩ := h; rfl) | (obtain ⟨_, _, _, _, _, _, _, rfl, _⟩ := h; rfl) | (obtain ⟨_, _, _, _, _, _, _, _, rfl, _⟩ := h; rfl) | (obtain ⟨_, _, _, _, _, _, _, _, _, rfl, _⟩ := h; rfl) | (obtain ⟨_, _, _, _, _, _, _, _, _, _, rfl, _⟩ := h; rfl) | (obtain ⟨_, _, _, _, _, _, _, _, _, _, _, rfl, _⟩ := h; rfl) | (obtain ⟨_, _, _, _, _, _, _, _, _, _, _, _, rfl, _⟩ := h; rfl) | (obtain ⟨_, _, _, _, _, _, _, _, _, _, _, _, _, rfl, _⟩ := h; rfl) | (obtain ⟨_, _, _, _, _, _, _, _, _, _, _, _, _, _, rfl, _⟩ := h; rfl) | (obtain ⟨_, _, _, _, _, _, _, _, _, _, _, _, _, _, _, rfl, _⟩ := h; rfl) | (obtain ⟨_, _, _, _, _, _, _, _, _, _, _, _, _, _, _, _, rfl, _⟩ := h; rfl) | (obtain ⟨_, _, _, _, _, _, _, _, _, _, _, _, _, _, _, _, _, rfl, _⟩ := h; rfl) | (obtain ⟨_, _, _, _, _, _, _, _, _, _, _, _, _, _, _, _, _, _, rfl, _⟩ := h; rfl) | (obtain ⟨_, _, _, _, _, _, _, _, _, _, _, _, _, _, _, _, _, _, _, rfl, _⟩ := h; rfl) | (obtain ⟨_, _, _, _, _, _, _, _, _, _, _, _, _, _, _, _, _, _, _, _, rfl, _⟩ := h; rfl) | (obtain ⟨_, _, _, _, _, _, _, _, _, _, _, _, _, _, _, _, _, _, _, _, _, rfl, _⟩ := h; rfl) | (obtain ⟨_, _, _, _, _, _, _, _, _, _, _, _, _, _, _, _, _, _, _, _, _, _, rfl, _⟩ := h; rfl) | (obtain ⟨_, _, _, _, _, _, _, _, _, _, _, _, _, _, _, _, _, _, _, _, _, _, _, rfl, _⟩ := h; rfl)) (fun cdv A outer s H vs Q E hr tk pz h => ?_)
  have hu := hr.units
  have hrH := L2H.roomH_of hr
  obtain ⟨n, o, i, rfl, h1, h2⟩ := h
  refine ⟨_, (pss_one (ps_if (PW.pt (pw_or (pt_cmpA (o_eq hu) (pv 1) pe_int (nomark _)) (pw_or1 (pt_cmpA op_gt (pe_callB (b_abs) rfl T.b_abs (by decide +kernel) (pa_cons (pv 1) pa_nil)) (pv 0) (nomark _))))) (pss_one (L2N.ps_raise rfl tk (Lk.pmk_own T.x_BadOperation (List.cons_ne_nil _ _) hr T.c_BadOperation (by exact (pa_cons (pv 1) (pa_cons (pv 2) pa_nil))) rfl))) pss_nil)), ?_⟩
  show (_ : Ends → L2.St → Hp → Prop) _ [some _, some _, some _] _
  try dsimp only [L2H.cxH, cxOf]
  walk_at "w"
  refine w_ite (fun c1 => ?_) (fun c1 => ?_)
  · walk_at "w"
    refine ⟨rfl, fun d hd => h1 (fun z => z.1 c1) d _ hd upd_same (Kp.refl.new hd)⟩
  · walk_at "w"
    refine w_ite (fun c2 => ?_) (fun c2 => ?_)
    · walk_at "w"
      refine ⟨rfl, fun d hd => h1 (fun z => by have := z.2; omega) d _ hd upd_same (Kp.refl.new hd)⟩
    · walk_at "w"
      exact h2 ⟨c1, by omega⟩
/-! ### a Links object -/
/-- the object at x, its three lists at l, r, f -/
def Lnk (a : AD) (H : Hp) (x l r f : Addr) (n : Int) (L R : List Int) (F : List Bool) : Prop :=
  (∃ dx, H x = some (.ins a.Links dx [("size", .int n), ("_lefts", .ref l), ("_rights", .ref r), ("_flags", .ref f)])) ∧ H l = some (.lst (L.map V.int)) ∧ H r = some (.lst (R.map V.int)) ∧ H f = some (.lst (F.map V.bl)) ∧ l ≠ r ∧ l ≠ f ∧ r ≠ f
theorem Lnk.kp {a : AD} {ms : List Addr} {H H' : Hp} {x l r f : Addr} {n : Int} {L R : List Int} {F : List Bool} (h : Lnk a H x l r f n L R F) (k : Kp ms H H') (hx : x ∉ ms) (hl : l ∉ ms) (hr : r ∉ ms) (hf : f ∉ ms) : Lnk a H' x l r f n L R F := by
  obtain ⟨⟨dx, h1⟩, h2, h3, h4, h5⟩ := h
  exact ⟨⟨dx, k.at h1 hx⟩, k.at h2 hl, k.at h3 hr, k.at h4 hf, h5⟩
theorem Lnk.kp0 {a : AD} {H H' : Hp} {x l r f : Addr} {n : Int} {L R : List Int} {F : List Bool} (h : Lnk a H x l r f n L R F) (k : Kp [] H H') : Lnk a H' x l r f n L R F := h.kp k List.not_mem_nil List.not_mem_nil List.not_mem_nil List.not_mem_nil
def sp_Links_left (a : AD) : Sp := fun vs H Q E => ∃ (x l r f : Addr) (n v : Int) (L R : List Int) (F : List Bool), vs = [.ref x, .int v] ∧ Lnk a H x l r f n L R F ∧ L.length = (n + 2).toNat ∧ (¬(1 ≤ v ∧ v ≤ n + 1) → xBadNode a (.int v) E H) ∧ (1 ≤ v → v ≤ n + 1 → Q (.int (L.getD v.toNat default)) H)
theorem sc_Links_left : FnScope ["self", "node"] ["self", "node"] (defScope s_Links_left) := ⟨rfl, rfl, rfl, by decide +kernel, rfl, by decide +kernel, by decide +kernel⟩
theorem ok_Links_left {P : Program} {w : World} {K : PySem.W.Frag} {mg : Str → Option Value} {base : Heap} {a : AD} (T : Txt P K mg a) : FnA P w K mg base 2 a.f_Links_left ["self", "node"] (sp_Links_left a) := by
  obtain ⟨fd, F, b⟩ := T.F_Links_left
  refine FnA.of F sc_Links_left b (fun vs H Q E h => by first | (obtain ⟨rfl, _⟩ := h; rfl) | (obtain ⟨_, rfl, _⟩ := h; rfl) | (obtain ⟨_, _, rfl, _⟩ := h; rfl) | (obtain ⟨_, _, _, rfl, _⟩ := h; rfl) | (obtain ⟨_, _, _, _, rfl, _⟩ := h; rfl) | (obtain ⟨_, _, _, _, _, rfl, _⟩ := h; rfl) | (obtain ⟨_, _, _, _, _, _, rfl, _⟩ := h; rfl) | (obtain ⟨_, _, _, _, _, _, _, rfl, _⟩ := h; rfl) | (obtain ⟨_, _, _, _, _, _, _, _, rfl, _⟩ := h; rfl) | (obtain ⟨_, _, _, _, _, _, _, _, _, rfl, _⟩ := h; rfl) | (obtain ⟨_, _, _, _, _, _, _, _, _, _, rfl, _⟩ := h; rfl) | (obtain ⟨_, _, _, _, _, _, _, _, _, _, _, rfl, _⟩ := h; rfl) | (obtain ⟨_, _, _, _, _, _, _, _, _, _, _, _, rfl, _⟩ := h; rfl) | (obtain ⟨_, _, _, _, _, _, _, _, _, _, _, _, _, rfl, _⟩ := h; rfl) | (obtain ⟨_, _, _, _, _, _, _, _, _, _, _, _, _, _, rfl, _⟩ := h; rfl) | (obtain ⟨_, _, _, _, _, _, _, _, _, _, _, _, _, _, _, rfl, _⟩ := h; rfl) | (obtain ⟨_, _, _, _, _, _, _, _, _, _, _, _, _, _, _, _, rfl, _⟩ := h; rfl) | (obtain ⟨_, _, _, _, _, _, _, _, _, _, _, _, _, _, _, _, _, rfl, _⟩ := h; rfl) | (obtain ⟨_, _, _, _, _, _, _, _, _, _, _, _, _, _, _, _, _, _, rfl, _⟩ := h; rfl) | (obtain ⟨_, _, _, _, _, _, _, _, _, _, _, _, _, _, _, _, _, _, _, rfl, _⟩ := h; rfl) | (obtain ⟨_, _, _, _, _, _, _, _, _, _, _, _, _, _, _, _, _, _, _, _, rfl, _⟩ := h; rfl) | (obtain ⟨_, _, _, _, _, _, _, _, _, _, _, _, _, _, _, _, _, _, _, _, _, rfl, _⟩ := h; rfl) | (obtain ⟨_, _, _, _, _, _, _, _, _, _, _, _, _, _, _, _, _, _, _, _, _, _, rfl, _⟩ := h; rfl) | (obtain ⟨_, _, _, _, _, _, _, _, _, _, _, _, _, _, _, _, _, _, _, _, _, _, _, rfl, _⟩ := h; rfl)) (fun cdv A outer s H vs Q E hr tk pz h => ?_)
  have hu := hr.units
  have hrH := L2H.roomH_of hr
  obtain ⟨x, l, r, f, n, v, L, R, F, rfl, ⟨⟨dx, hx⟩, hl, hr', hf, _⟩, hL, h1, h2⟩ := h
  refine ⟨_, (pss_cons (ps_if (pt_not (pt_chainA op_le op_le pe_int (pv 1) (pe_op o_add (pe_fld (pv 0) rfl) pe_int))) (pss_one (L2N.ps_raise rfl tk (Lk.pmk_own T.x_BadNode (List.cons_ne_nil _ _) hr T.c_BadNode (by exact (pa_cons (pv 1) pa_nil)) rfl))) pss_nil)
      (pss_one (ps_ret (pe_ix ix_seq (pe_fld (pv 0) rfl) (pv 1) (fun _ _ => rfl))))), ?_⟩
  show (_ : Ends → L2.St → Hp → Prop) _ [some _, some _] _
  try dsimp only [L2H.cxH, cxOf]
  walk_at "w"
  refine w_ite (fun c1 => ?_) (fun c1 => ?_)
  · walk_at "w"
    refine w_iteN (fun c2 => ?_) (fun c2 => ?_)
    · walk_at "w"
      refine ⟨rfl, fun d hd => h1 (fun z => c2 z.2) d _ hd upd_same (Kp.refl.new hd)⟩
    · walk_at "w"
      exact h2 c1 c2
  · walk_at "w"
    refine ⟨rfl, fun d hd => h1 (fun z => c1 z.1) d _ hd upd_same (Kp.refl.new hd)⟩
def sp_Links_right (a : AD) : Sp := fun vs H Q E => ∃ (x l r f : Addr) (n v : Int) (L R : List Int) (F : List Bool), vs = [.ref x, .int v] ∧ Lnk a H x l r f n L R F ∧ R.length = (n + 2).toNat ∧ (¬(0 ≤ v ∧ v ≤ n) → xBadNode a (.int v) E H) ∧ (0 ≤ v → v ≤ n → Q (.int (R.getD v.toNat default)) H)
theorem sc_Links_right : FnScope ["self", "node"] ["self", "node"] (defScope s_Links_right) := ⟨rfl, rfl, rfl, by decide +kernel, rfl, by decide +kernel, by decide +kernel⟩
theorem ok_Links_right {P : Program} {w : World} {K : PySem.W.Frag} {mg : Str → Option Value} {base : Heap} {a : AD} (T : Txt P K mg a) : FnA P w K mg base 2 a.f_Links_right ["self", "node"] (sp_Links_right a) := by
  obtain ⟨fd, F, b⟩ := T.F_Links_right
  refine FnA.of F sc_Links_right b (fun vs H Q E h => by first | (obtain ⟨rfl, _⟩ := h; rfl) | (obtain ⟨_, rfl, _⟩ := h; rfl) | (obtain ⟨_, _, rfl, _⟩ := h; rfl) | (obtain ⟨_, _, _, rfl, _⟩ := h; rfl) | (obtain ⟨_, _, _, _, rfl, _⟩ := h; rfl) | (obtain ⟨_, _, _, _, _, rfl, _⟩ := h; rfl) | (obtain ⟨_, _, _, _, _, _, rfl, _⟩ := h; rfl) | (obtain ⟨_, _, _, _, _, _, _, rfl, _⟩ := h; rfl) | (obtain ⟨_, _, _, _, _, _, _, _, rfl, _⟩ := h; rfl) | (obtain ⟨_, _, _, _, _, _, _, _, _, rfl, _⟩ := h; rfl) | (obtain ⟨_, _, _, _, _, _, _, _, _, _, rfl, _⟩ := h; rfl) | (obtain ⟨_, _, _, _, _, _, _, _, _, _, _, rfl, _⟩ := h; rfl) | (obtain ⟨_, _, _, _, _, _, _, _, _, _, _, _, rfl, _⟩ := h; rfl) | (obtain ⟨_, _, _, _, _, _, _, _, _, _, _, _, _, rfl, _⟩ := h; rfl) | (obtain ⟨_, _, _, _, _, _, _, _, _, _, _, _, _, _, rfl, _⟩ := h; rfl) | (obtain ⟨_, _, _, _, _, _, _, _, _, _, _, _, _, _, _, rfl, _⟩ := h; rfl) | (obtain ⟨_, _, _, _, _, _, _, _, _, _, _, _, _, _, _, _, rfl, _⟩ := h; rfl) | (obtain ⟨_, _, _, _, _, _, _, _, _, _, _, _, _, _, _, _, _, rfl, _⟩ := h; rfl) | (obtain ⟨_, _, _, _, _, _, _, _, _, _, _, _, _, _, _, _, _, _, rfl, _⟩ := h; rfl) | (obtain ⟨_, _, _, _, _, _, _, _, _, _, _, _, _, _, _, _, _, _, _, rfl, _⟩ := h; rfl) | (obtain ⟨_, _, _, _, _, _, _, _, _, _, _, _, _, _, _, _, _, _, _, _, rfl, _⟩ := h; rfl) | (obtain ⟨_, _, _, _, _, _, _, _, _, _, _, _, _, _, _, _, _, _, _, _, _, rfl, _⟩ := h; rfl) | (obtain ⟨_, _, _, _, _, _, _, _, _, _, _, _, _, _, _, _, _, _, _, _, _, _, rfl, _⟩ := h; rfl) | (obtain ⟨_, _, _, _, _, _, _, _, _, _, _, _, _, _, _, _, _, _, _, _, _, _, _, rfl, _⟩ := h; rfl)) (fun cdv A outer s H vs Q E hr tk pz h => ?_)
  have hu := hr.units
  have hrH := L2H.roomH_of hr
  obtain ⟨x, l, r, f, n, v, L, R, F, rfl, ⟨⟨dx, hx⟩, hl, hr', hf, _⟩, hL, h1, h2⟩ := h
  refine ⟨_, (pss_cons (ps_if (pt_not (pt_chainA op_le op_le pe_int (pv 1) (pe_fld (pv 0) rfl))) (pss_one (L2N.ps_raise rfl tk (Lk.pmk_own T.x_BadNode (List.cons_ne_nil _ _) hr T.c_BadNode (by exact (pa_cons (pv 1) pa_nil)) rfl))) pss_nil)
      (pss_one (ps_ret (pe_ix ix_seq (pe_fld (pv 0) rfl) (pv 1) (fun _ _ => rfl))))), ?_⟩
  show (_ : Ends → L2.St → Hp → Prop) _ [some _, some _] _
  try dsimp only [L2H.cxH, cxOf]
  walk_at "w"
  refine w_ite (fun c1 => ?_) (fun c1 => ?_)
  · walk_at "w"
    refine w_iteN (fun c2 => ?_) (fun c2 => ?_)
    · walk_at "w"
      refine ⟨rfl, fun d hd => h1 (fun z => c2 z.2) d _ hd upd_same (Kp.refl.new hd)⟩
    · walk_at "w"
      exact h2 c1 c2
  · walk_at "w"
    refine ⟨rfl, fun d hd => h1 (fun z => c1 z.1) d _ hd upd_same (Kp.refl.new hd)⟩
/-- the object after an operation on v: low and high its neighbours -/
def apR (L R : List Int) (o : Int) : List Int := R.set (L.getD o.natAbs default).toNat (if o < 0 then R.getD o.natAbs default else (o.natAbs : Int))
def apL (L R : List Int) (o : Int) : List Int := L.set (R.getD o.natAbs default).toNat (if o < 0 then L.getD o.natAbs default else (o.natAbs : Int))
def apF (F : List Bool) (o : Int) : List Bool := F.set o.natAbs (decide (o < 0))
def sp_Links_apply_at (a : AD) : Sp := fun vs H Q E => ∃ (x l r f : Addr) (n o i : Int) (L R : List Int) (F : List Bool), vs = [.ref x, .int o, .int i] ∧ Lnk a H x l r f n L R F ∧ L.length = (n + 2).toNat ∧ R.length = (n + 2).toNat ∧ F.length = (n + 2).toNat ∧
  (¬IsOp n o → xBadOperation a (.int o) (.int i) E H) ∧ (IsOp n o → F.getD o.natAbs default = decide (o < 0) → xIllegal a (.int o) (.int i) E H) ∧
  (IsOp n o → F.getD o.natAbs default ≠ decide (o < 0) → 0 ≤ L.getD o.natAbs default ∧ L.getD o.natAbs default < n + 2 ∧ 0 ≤ R.getD o.natAbs default ∧ R.getD o.natAbs default < n + 2 ∧ ∀ H', Lnk a H' x l r f n (apL L R o) (apR L R o) (apF F o) → Kp [l, r, f] H H' → Q .non H')
theorem sc_Links_apply_at : FnScope ["self", "operation", "index", "node", "is_unlink", "low", "high"] ["self", "operation", "index"] (defScope s_Links_apply_at) := ⟨rfl, rfl, rfl, by decide +kernel, rfl, by decide +kernel, by decide +kernel⟩
theorem ok_Links_apply_at {P : Program} {w : World} {K : PySem.W.Frag} {mg : Str → Option Value} {base : Heap} {a : AD} (T : Txt P K mg a) (G_check_operation : FnA P w K mg base 2 a.f_check_operation ["size", "operation", "index"] (sp_check_operation a)) : FnA P w K mg base 3 a.f_Links_apply_at ["self", "operation", "index"] (sp_Links_apply_at a) := by
  obtain ⟨fd, F, b⟩ := T.F_Links_apply_at
  refine FnA.of F sc_Links_apply_at b (fun vs H Q E h => by first | (obtain ⟨rfl, _⟩ := h; rfl) | (obtain ⟨_, rfl, _⟩ := h; rfl) | (obtain ⟨_, _, rfl, _⟩ := h; rfl) | (obtain ⟨_, _, _, rfl, _⟩ := h; rfl) | (obtain ⟨_, _, _, _, rfl, _⟩ := h; rfl) | (obtain ⟨_, _, _, _, _, rfl, _⟩ := h; rfl) | (obtain ⟨_, _, _, _, _, _, rfl, _⟩ := h; rfl) | (obtain ⟨_, _, _, _, _, _, _, rfl, _⟩ := h; rfl) | (obtain ⟨_, _, _, _, _, _, _, _, rfl, _⟩ := h; rfl) | (obtain ⟨_, _, _, _, _, _, _, _, _, rfl, _⟩ := h; rfl) | (obtain ⟨_, _, _, _, _, _, _, _, _, _, rfl, _⟩ := h; rfl) | (obtain ⟨_, _, _, _, _, _, _, _, _, _, _, rfl, _⟩ := h; rfl) | (obtain ⟨_, _, _, _, _, _, _, _, _, _, _, _, rfl, _⟩ := h; rfl) | (obtain ⟨_, _, _, _, _, _, _, _, _, _, _, _, _, rfl, _⟩ := h; rfl) | (obtain ⟨_, _, _, _, _, _, _, _, _, _, _, _, _, _, rfl, _⟩ := h; rfl) | (obtain ⟨_, _, _, _, _, _, _, _, _, _, _, _, _, _, _, rfl, _⟩ := h; rfl) | (obtain ⟨_, _, _, _, _, _, _, _, _, _, _, _, _, _, _, _, rfl, _⟩ := h; rfl) | (obtain ⟨_, _, _, _, _, _, _, _, _, _, _, _, _, _, _, _, _, rfl, _⟩ := h; rfl) | (obtain ⟨_, _, _, _, _, _, _, _, _, _, _, _, _, _, _, _, _, _, rfl, _⟩ := h; rfl) | (obtain ⟨_, _, _, _, _, _, _, _, _, _, _, _, _, _, _, _, _, _, _, rfl, _⟩ := h; rfl) | (obtain ⟨_, _, _, _, _, _, _, _, _, _, _, _, _, _, _, _, _, _, _, _, rfl, _⟩ := h; rfl) | (obtain ⟨_, _, _, _, _, _, _, _, _, _, _, _, _, _, _, _, _, _, _, _, _, rfl, _⟩ := h; rfl) | (obtain ⟨_, _, _, _, _, _, _, _, _, _, _, _, _, _, _, _, _, _, _, _, _, _, rfl, _⟩ := h; rfl) | (obtain ⟨_, _, _, _, _, _, _, _, _, _, _, _, _, _, _, _, _, _, _, _, _, _, _, rfl, _⟩ := h; rfl)) (fun cdv A outer s H vs Q E hr tk pz h => ?_)
  have hu := hr.units
  have hrH := L2H.roomH_of hr
  obtain ⟨x, l, r, f, n, o, i, L, R, F, rfl, ⟨⟨dx, hx⟩, hl, hr', hf, hlr, hlf, hrf⟩, hL, hR, hF, h1, h2, h3⟩ := h
  refine ⟨_, (pss_cons (ps_expr (pe_callA G_check_operation (Room.mono hr (by decide)) T.n_check_operation tk (pa_cons (pe_fld (pv 0) rfl) (pa_cons (pv 1) (pa_cons (pv 2) pa_nil)))))
      (pss_cons (ps_set (i := 3) sc_Links_apply_at.nd rfl (Or.inl rfl) (pe_callB (b_abs) rfl T.b_abs (by decide +kernel) (pa_cons (pv 1) pa_nil)))
      (pss_cons (ps_set (i := 4) sc_Links_apply_at.nd rfl (Or.inl rfl) (pe_cmpR op_lt (pv 1) pe_int (nomark _)))
      (pss_cons (ps_if (pt_cmpA (o_eq hu) (pe_ix ix_seq (pe_fld (pv 0) rfl) (pv 3) (fun _ _ => rfl)) (pv 4) (nomark _)) (pss_one (L2N.ps_raise rfl tk (Lk.pmk_own T.x_Illegal (List.cons_ne_nil _ _) hr T.c_Illegal (by exact (pa_cons (pv 1) (pa_cons (pv 2) pa_nil))) rfl))) pss_nil)
      (pss_cons (ps_set (i := 5) sc_Links_apply_at.nd rfl (Or.inl rfl) (pe_ix ix_seq (pe_fld (pv 0) rfl) (pv 3) (fun _ _ => rfl)))
      (pss_cons (ps_set (i := 6) sc_Links_apply_at.nd rfl (Or.inl rfl) (pe_ix ix_seq (pe_fld (pv 0) rfl) (pv 3) (fun _ _ => rfl)))
      (pss_cons (ps_asg (pe_ifExp (pt_tru (pv 4)) (pv 6) (pv 3)) (pg_sub (pe_fld (pv 0) rfl) (pv 5) set_list))
      (pss_cons (ps_asg (pe_ifExp (pt_tru (pv 4)) (pv 5) (pv 3)) (pg_sub (pe_fld (pv 0) rfl) (pv 6) set_list))
      (pss_one (ps_asg (pv 4) (pg_sub (pe_fld (pv 0) rfl) (pv 3) set_list))))))))))), ?_⟩
  show (_ : Ends → L2.St → Hp → Prop) _ [some _, some _, some _, none, none, none, none] _
  try dsimp only [L2H.cxH, cxOf]
  walk_at "w"
  refine ⟨n, o, i, rfl, h1, fun hop => ?_⟩
  have hop2 := hop.2
  walk_at "w"
  refine w_ite (fun c1 => ?_) (fun c1 => ?_)
  · walk_at "w"
    exact ⟨rfl, fun d hd => h2 hop c1 d _ hd upd_same (Kp.refl.new hd)⟩
  · obtain ⟨b1, b2, b3, b4, k⟩ := h3 hop c1
    have n1 : x ≠ l := ne_of hx hl (by intro z; cases z)
    have n2 : x ≠ r := ne_of hx hr' (by intro z; cases z)
    have n3 : x ≠ f := ne_of hx hf (by intro z; cases z)
    walk_at "w"
    simp only [Int.toNat_natCast]
    unfold apL apR apF at k
    refine w_ite (fun c2 => ?_) (fun c2 => ?_)
    · rw [if_pos c2, if_pos c2] at k
      walk_at "w"
      exact k _ ⟨⟨dx, by walk_at "hp"⟩, by walk_at "hp", by walk_at "hp", upd_same, hlr, hlf, hrf⟩ (((Kp.refl.mut (by simp)).mut (by simp)).mut (by simp))
    · rw [if_neg c2, if_neg c2] at k
      walk_at "w"
      exact k _ ⟨⟨dx, by walk_at "hp"⟩, by walk_at "hp", by walk_at "hp", upd_same, hlr, hlf, hrf⟩ (((Kp.refl.mut (by simp)).mut (by simp)).mut (by simp))
-- an operation, at place i
def apSp (a : AD) (x l r f : Addr) (n o i : Int) (L R : List Int) (F : List Bool) (H : Hp) (Q : VK) (E : XK) : Prop := Lnk a H x l r f n L R F ∧ L.length = (n + 2).toNat ∧ R.length = (n + 2).toNat ∧ F.length = (n + 2).toNat ∧
  (¬IsOp n o → xBadOperation a (.int o) (.int i) E H) ∧ (IsOp n o → F.getD o.natAbs default = decide (o < 0) → xIllegal a (.int o) (.int i) E H) ∧
  (IsOp n o → F.getD o.natAbs default ≠ decide (o < 0) → 0 ≤ L.getD o.natAbs default ∧ L.getD o.natAbs default < n + 2 ∧ 0 ≤ R.getD o.natAbs default ∧ R.getD o.natAbs default < n + 2 ∧ ∀ H', Lnk a H' x l r f n (apL L R o) (apR L R o) (apF F o) → Kp [l, r, f] H H' → Q .non H')
def sp_Links_apply (a : AD) : Sp := fun vs H Q E => ∃ (x l r f : Addr) (n o : Int) (L R : List Int) (F : List Bool), vs = [.ref x, .int o] ∧ apSp a x l r f n o 0 L R F H Q E
theorem sc_Links_apply : FnScope ["self", "operation"] ["self", "operation"] (defScope s_Links_apply) := ⟨rfl, rfl, rfl, by decide +kernel, rfl, by decide +kernel, by decide +kernel⟩
theorem ok_Links_apply {P : Program} {w : World} {K : PySem.W.Frag} {mg : Str → Option Value} {base : Heap} {a : AD} (T : Txt P K mg a) (G_Links_apply_at : FnA P w K mg base 3 a.f_Links_apply_at ["self", "operation", "index"] (sp_Links_apply_at a)) : FnA P w K mg base 4 a.f_Links_apply ["self", "operation"] (sp_Links_apply a) := by
  obtain ⟨fd, F, b⟩ := T.F_Links_apply
  refine FnA.of F sc_Links_apply b (fun vs H Q E h => by first | (obtain ⟨rfl, _⟩ := h; rfl) | (obtain ⟨_, rfl, _⟩ := h; rfl) | (obtain ⟨_, _, rfl, _⟩ := h; rfl) | (obtain ⟨_, _, _, rfl, _⟩ := h; rfl) | (obtain ⟨_, _, _, _, rfl, _⟩ := h; rfl) | (obtain ⟨_, _, _, _, _, rfl, _⟩ := h; rfl) | (obtain ⟨_, _, _, _, _, _, rfl, _⟩ := h; rfl) | (obtain ⟨_, _, _, _, _, _, _, rfl, _⟩ := h; rfl) | (obtain ⟨_, _, _, _, _, _, _, _, rfl, _⟩ := h; rfl) | (obtain ⟨_, _, _, _, _, _, _, _, _, rfl, _⟩ := h; rfl) | (obtain ⟨_, _, _, _, _, _, _, _, _, _, rfl, _⟩ := h; rfl) | (obtain ⟨_, _, _, _, _, _, _, _, _, _, _, rfl, _⟩ := h; rfl) | (obtain ⟨_, _, _, _, _, _, _, _, _, _, _, _, rfl, _⟩ := h; rfl) | (obtain ⟨_, _, _, _, _, _, _, _, _, _, _, _, _, rfl, _⟩ := h; rfl) | (obtain ⟨_, _, _, _, _, _, _, _, _, _, _, _, _, _, rfl, _⟩ := h; rfl) | (obtain ⟨_, _, _, _, _, _, _, _, _, _, _, _, _, _, _, rfl, _⟩ := h; rfl) | (obtain ⟨_, _, _, _, _, _, _, _, _, _, _, _, _, _, _, _, rfl, _⟩ := h; rfl) | (obtain ⟨_, _, _, _, _, _, _, _, _, _, _, _, _, _, _, _, _, rfl, _⟩ := h; rfl) | (obtain ⟨_, _, _, _, _, _, _, _, _, _, _, _, _, _, _, _, _, _, rfl, _⟩ := h; rfl) | (obtain ⟨_, _, _, _, _, _, _, _, _, _, _, _, _, _, _, _, _, _, _, rfl, _⟩ := h; rfl) | (obtain ⟨_, _, _, _, _, _, _, _, _, _, _, _, _, _, _, _, _, _, _, _, rfl, _⟩ := h; rfl) | (obtain ⟨_, _, _, _, _, _, _, _, _, _, _, _, _, _, _, _, _, _, _, _, _, rfl, _⟩ := h; rfl) | (obtain ⟨_, _, _, _, _, _, _, _, _, _, _, _, _, _, _, _, _, _, _, _, _, _, rfl, _⟩ := h; rfl) | (obtain ⟨_, _, _, _, _, _, _, _, _, _, _, _, _, _, _, _, _, _, _, _, _, _, _, rfl, _⟩ := h; rfl)) (fun cdv A outer s H vs Q E hr tk pz h => ?_)
  have hu := hr.units
  have hrH := L2H.roomH_of hr
  obtain ⟨x, l, r, f, n, o, L, R, F, rfl, h⟩ := h
  have hx := h.1.1.choose_spec
  refine ⟨_, (pss_one (ps_expr (pe_methS (pl := _) G_Links_apply_at (Room.mono hr (by decide)) T.cl_Links T.me_Links_apply_at tk (pv 0) (pa_cons (pv 1) (pa_cons pe_int pa_nil))))), ?_⟩
  show (_ : Ends → L2.St → Hp → Prop) _ [some _, some _] _
  try dsimp only [L2H.cxH, cxOf]
  walk_at "w"
  refine ⟨x, l, r, f, n, o, 0, L, R, F, rfl, h.1, h.2.1, h.2.2.1, h.2.2.2.1, h.2.2.2.2.1, h.2.2.2.2.2.1, fun q1 q2 => ?_⟩
  obtain ⟨b1, b2, b3, b4, k⟩ := h.2.2.2.2.2.2 q1 q2
  refine ⟨b1, b2, b3, b4, fun H' j1 j2 => ?_⟩
  walk_at "w"
  exact k H' j1 j2
/-- a new object -/
def sp_Links___init__ (a : AD) : Sp := fun vs H Q E => ∃ (x dx : Addr) (n : Int), vs = [.ref x, .int n] ∧ H x = some (.ins a.Links dx []) ∧ (¬(0 ≤ n ∧ n ≤ 60) → xBadSize a (.int n) E H) ∧
  (0 ≤ n → n ≤ 60 → ∀ (l r f : Addr) (H' : Hp), H l = none → H r = none → H f = none → Lnk a H' x l r f n (rgI (-1) (n + 1)) (rgI 1 (n + 3)) (List.replicate (n + 2).toNat false) → Kp [x] H H' → Q .non H')
theorem sc_Links___init__ : FnScope ["self", "size"] ["self", "size"] (defScope s_Links___init__) := ⟨rfl, rfl, rfl, by decide +kernel, rfl, by decide +kernel, by decide +kernel⟩
theorem ok_Links___init__ {P : Program} {w : World} {K : PySem.W.Frag} {mg : Str → Option Value} {base : Heap} {a : AD} (T : Txt P K mg a) (G_check_size : FnA P w K mg base 2 a.f_check_size ["size"] (sp_check_size a)) : FnA P w K mg base 3 a.f_Links___init__ ["self", "size"] (sp_Links___init__ a) := by
  obtain ⟨fd, F, b⟩ := T.F_Links___init__
  refine FnA.of F sc_Links___init__ b (fun vs H Q E h => by first | (obtain ⟨rfl, _⟩ := h; rfl) | (obtain ⟨_, rfl, _⟩ := h; rfl) | (obtain ⟨_, _, rfl, _⟩ := h; rfl) | (obtain ⟨_, _, _, rfl, _⟩ := h; rfl) | (obtain ⟨_, _, _, _, rfl, _⟩ := h; rfl) | (obtain ⟨_, _, _, _, _, rfl, _⟩ := h; rfl) | (obtain ⟨_, _, _, _, _, _, rfl, _⟩ := h; rfl) | (obtain ⟨_, _, _, _, _, _, _, rfl, _⟩ := h; rfl) | (obtain ⟨_, _, _, _, _, _, _, _, rfl, _⟩ := h; rfl) | (obtain ⟨_, _, _, _, _, _, _, _, _, rfl, _⟩ := h; rfl) | (obtain ⟨_, _, _, _, _, _, _, _, _, _, rfl, _⟩ := h; rfl) | (obtain ⟨_, _, _, _, _, _, _, _, _, _, _, rfl, _⟩ := h; rfl) | (obtain ⟨_, _, _, _, _, _, _, _, _, _, _, _, rfl, _⟩ := h; rfl) | (obtain ⟨_, _, _, _, _, _, _, _, _, _, _, _, _, rfl, _⟩ := h; rfl) | (obtain ⟨_, _, _, _, _, _, _, _, _, _, _, _, _, _, rfl, _⟩ := h; rfl) | (obtain ⟨_, _, _, _, _, _, _, _, _, _, _, _, _, _, _, rfl, _⟩ := h; rfl) | (obtain ⟨_, _, _, _, _, _, _, _, _, _, _, _, _, _, _, _, rfl, _⟩ := h; rfl) | (obtain ⟨_, _, _, _, _, _, _, _, _, _, _, _, _, _, _, _, _, rfl, _⟩ := h; rfl) | (obtain ⟨_, _, _, _, _, _, _, _, _, _, _, _, _, _, _, _, _, _, rfl, _⟩ := h; rfl) | (obtain ⟨_, _, _, _, _, _, _, _, _, _, _, _, _, _, _, _, _, _, _, rfl, _⟩ := h; rfl) | (obtain ⟨_, _, _, _, _, _, _, _, _, _, _, _, _, _, _, _, _, _, _, _, rfl, _⟩ := h; rfl) | (obtain ⟨_, _, _, _, _, _, _, _, _, _, _, _, _, _, _, _, _, _, _, _, _, rfl, _⟩ := h; rfl) | (obtain ⟨_, _, _, _, _, _, _, _, _, _, _, _, _, _, _, _, _, _, _, _, _, _, rfl, _⟩ := h; rfl) | (obtain ⟨_, _, _, _, _, _, _, _, _, _, _, _, _, _, _, _, _, _, _, _, _, _, _, rfl, _⟩ := h; rfl)) (fun cdv A outer s H vs Q E hr tk pz h => ?_)
  have hu := hr.units
  have hrH := L2H.roomH_of hr
  obtain ⟨x, dx, n, rfl, hx, h1, h2⟩ := h
  refine ⟨_, (pss_cons (ps_expr (pe_callA G_check_size (Room.mono hr (by decide)) T.n_check_size tk (pa_cons (pv 1) pa_nil)))
      (pss_cons (ps_fld (pv 0) (pv 1) rfl)
      (pss_cons (ps_fld (pv 0) (pe_listRg rfl rfl T.b_list (prg_2 rfl T.b_range (pe_un un_neg pe_int) (pe_op o_add (pv 1) pe_int))) rfl)
      (pss_cons (ps_fld (pv 0) (pe_listRg rfl rfl T.b_list (prg_2 rfl T.b_range pe_int (pe_op o_add (pv 1) pe_int))) rfl)
      (pss_one (ps_fld (pv 0) (pe_op o_mul (pe_lst (pa_cons pe_bl pa_nil)) (pe_op o_add (pv 1) pe_int)) rfl)))))), ?_⟩
  show (_ : Ends → L2.St → Hp → Prop) _ [some _, some _] _
  try dsimp only [L2H.cxH, cxOf]
  walk_at "w"
  refine ⟨n, rfl, h1, fun n0 n1 => ?_⟩
  walk_at "w"
  intro l hl
  have hxl : x ≠ l := ne_of_none (by walk_at "hp") hl
  have l0 : H l = none := by rw [upd_ne (Ne.symm hxl)] at hl; exact hl
  walk_at "w"
  intro r hr
  have hxr : x ≠ r := ne_of_none upd_same hr
  have hlr : l ≠ r := ne_of_none (by walk_at "hp") hr
  have r0 : H r = none := by rw [upd_ne (Ne.symm hxr), upd_ne (Ne.symm hlr), upd_ne (Ne.symm hxr)] at hr; exact hr
  walk_at "w"
  intro f0 hf0
  walk_at "w"
  intro f hf
  have hxf : x ≠ f := ne_of_none (by walk_at "hp") hf
  have hlf : l ≠ f := ne_of_none (by walk_at "hp") hf
  have hrf : r ≠ f := ne_of_none (by walk_at "hp") hf
  have hff : f0 ≠ f := ne_of_none (by walk_at "hp") hf
  have f00 : H f = none := by rw [upd_ne (Ne.symm hff), upd_ne (Ne.symm hxf), upd_ne (Ne.symm hrf), upd_ne (Ne.symm hxf), upd_ne (Ne.symm hlf), upd_ne (Ne.symm hxf)] at hf; exact hf
  walk_at "w"
  refine h2 n0 n1 l r f _ l0 r0 f00 ⟨⟨dx, upd_same⟩, by walk_at "hp", by walk_at "hp", by walk_at "hp", hlr, hlf, hrf⟩ ?_
  have f01 : H f0 = none := by walk_at "fr"
  exact ((((((((Kp.refl.mut (by simp)).own l0).mut (by simp)).own r0).mut (by simp)).own f01).own f00).mut (by simp))
/-- the new object's promise -/
def newSp (a : AD) (n : Int) (L R : List Int) (F : List Bool) (H : Hp) (Q : VK) : Prop := ∀ (x l r f : Addr) (H' : Hp), H x = none → H l = none → H r = none → H f = none → Lnk a H' x l r f n L R F → Kp [] H H' → Q (.ref x) H'
def sp_Links_built (a : AD) : Sp := fun vs H Q E => ∃ (n : Int) (pl pr pf : Addr) (L R : List Int) (F : List Bool), vs = [.int n, .ref pl, .ref pr, .ref pf] ∧ 0 ≤ n ∧ n ≤ 60 ∧ H pl = some (.lst (L.map V.int)) ∧ H pr = some (.lst (R.map V.int)) ∧ H pf = some (.lst (F.map V.bl)) ∧ newSp a n L R F H Q
theorem sc_Links_built : FnScope ["size", "lefts", "rights", "flags", "links"] ["size", "lefts", "rights", "flags"] (defScope s_Links_built) := ⟨rfl, rfl, rfl, by decide +kernel, rfl, by decide +kernel, by decide +kernel⟩
theorem ok_Links_built {P : Program} {w : World} {K : PySem.W.Frag} {mg : Str → Option Value} {base : Heap} {a : AD} (T : Txt P K mg a) (G_Links___init__ : FnA P w K mg base 3 a.f_Links___init__ ["self", "size"] (sp_Links___init__ a)) : FnA P w K mg base 5 a.f_Links_built ["size", "lefts", "rights", "flags"] (sp_Links_built a) := by
  obtain ⟨fd, F, b⟩ := T.F_Links_built
  refine FnA.of F sc_Links_built b (fun vs H Q E h => by first | (obtain ⟨rfl, _⟩ := h; rfl) | (obtain ⟨_, rfl, _⟩ := h; rfl) | (obtain ⟨_, _, rfl, _⟩ := h; rfl) | (obtain ⟨_, _, _, rfl, _⟩ := h; rfl) | (obtain ⟨_, _, _, _, rfl, _⟩ := h; rfl) | (obtain ⟨_, _, _, _, _, rfl, _⟩ := h; rfl) | (obtain ⟨_, _, _, _, _, _, rfl, _⟩ := h; rfl) | (obtain ⟨_, _, _, _, _, _, _, rfl, _⟩ := h; rfl) | (obtain ⟨_, _, _, _, _, _, _, _, rfl, _⟩ := h; rfl) | (obtain ⟨_, _, _, _, _, _, _, _, _, rfl, _⟩ := h; rfl) | (obtain ⟨_, _, _, _, _, _, _, _, _, _, rfl, _⟩ := h; rfl) | (obtain ⟨_, _, _, _, _, _, _, _, _, _, _, rfl, _⟩ := h; rfl) | (obtain ⟨_, _, _, _, _, _, _, _, _, _, _, _, rfl, _⟩ := h; rfl) | (obtain ⟨_, _, _, _, _, _, _, _, _, _, _, _, _, rfl, _⟩ := h; rfl) | (obtain ⟨_, _, _, _, _, _, _, _, _, _, _, _, _, _, rfl, _⟩ := h; rfl) | (obtain ⟨_, _, _, _, _, _, _, _, _, _, _, _, _, _, _, rfl, _⟩ := h; rfl) | (obtain ⟨_, _, _, _, _, _, _, _, _, _, _, _, _, _, _, _, rfl, _⟩ := h; rfl) | (obtain ⟨_, _, _, _, _, _, _, _, _, _, _, _, _, _, _, _, _, rfl, _⟩ := h; rfl) | (obtain ⟨_, _, _, _, _, _, _, _, _, _, _, _, _, _, _, _, _, _, rfl, _⟩ := h; rfl) | (obtain ⟨_, _, _, _, _, _, _, _, _, _, _, _, _, _, _, _, _, _, _, rfl, _⟩ := h; rfl) | (obtain ⟨_, _, _, _, _, _, _, _, _, _, _, _, _, _, _, _, _, _, _, _, rfl, _⟩ := h; rfl) | (obtain ⟨_, _, _, _, _, _, _, _, _, _, _, _, _, _, _, _, _, _, _, _, _, rfl, _⟩ := h; rfl) | (obtain ⟨_, _, _, _, _, _, _, _, _, _, _, _, _, _, _, _, _, _, _, _, _, _, rfl, _⟩ := h; rfl) | (obtain ⟨_, _, _, _, _, _, _, _, _, _, _, _, _, _, _, _, _, _, _, _, _, _, _, rfl, _⟩ := h; rfl)) (fun cdv A outer s H vs Q E hr tk pz h => ?_)
  have hu := hr.units
  have hrH := L2H.roomH_of hr
  obtain ⟨n, pl, pr, pf, L, R, F, rfl, n0, n1, hpl, hpr, hpf, k⟩ := h
  refine ⟨_, (pss_cons (ps_set (i := 4) sc_Links_built.nd rfl (Or.inl rfl) (pe_makeS G_Links___init__ T.mk_Links (Room.mono hr (by decide)) T.c_Links tk (pa_cons (pv 0) pa_nil)))
      (pss_cons (ps_fld (pv 4) (pe_callTy b_list rfl T.b_list (by decide +kernel) (pa_cons (pv 1) pa_nil)) rfl)
      (pss_cons (ps_fld (pv 4) (pe_callTy b_list rfl T.b_list (by decide +kernel) (pa_cons (pv 2) pa_nil)) rfl)
      (pss_cons (ps_fld (pv 4) (pe_callTy b_list rfl T.b_list (by decide +kernel) (pa_cons (pv 3) pa_nil)) rfl)
      (pss_one (ps_ret (pv 4))))))), ?_⟩
  show (_ : Ends → L2.St → Hp → Prop) _ [some _, some _, some _, some _, none] _
  try dsimp only [L2H.cxH, cxOf]
  walk_at "w"
  intro x dx hx hdx hne
  have kx : Kp [] H (upd (upd H dx (.own x)) x (.ins a.Links dx [])) := (Kp.refl.new hdx).own hx
  refine ⟨x, dx, n, rfl, upd_same, fun z => absurd ⟨n0, n1⟩ z, fun _ _ l r f H1 hl hr hf hL k1 => ?_⟩
  obtain ⟨⟨dx', h1⟩, h2, h3, h4, hlr, hlf, hrf⟩ := hL
  have x1 : x ≠ pl := Ne.symm (ne_of_none hpl hx)
  have x2 : x ≠ pr := Ne.symm (ne_of_none hpr hx)
  have x3 : x ≠ pf := Ne.symm (ne_of_none hpf hx)
  have q1 : H1 pl = some (.lst (L.map V.int)) := k1.at (kx.at0 hpl) (by simp; exact Ne.symm x1)
  have q2 : H1 pr = some (.lst (R.map V.int)) := k1.at (kx.at0 hpr) (by simp; exact Ne.symm x2)
  have q3 : H1 pf = some (.lst (F.map V.bl)) := k1.at (kx.at0 hpf) (by simp; exact Ne.symm x3)
  have k0 : Kp [] H H1 := fun b o e _ => k1 b o (kx.at0 e) (by simp; intro z; subst z; rw [hx] at e; cases e)
  refine ⟨rfl, ?_⟩
  walk_at "w"
  intro l2 hl2
  have y1 : x ≠ l2 := ne_of_none h1 hl2
  have y2 : pr ≠ l2 := ne_of_none q2 hl2
  have y3 : pf ≠ l2 := ne_of_none q3 hl2
  walk_at "w"
  intro r2 hr2
  have y4 : x ≠ r2 := ne_of_none upd_same hr2
  have y5 : l2 ≠ r2 := ne_of_none (by walk_at "hp") hr2
  have y6 : pf ≠ r2 := ne_of_none (by walk_at "hp") hr2
  walk_at "w"
  intro f2 hf2
  have y7 : x ≠ f2 := ne_of_none upd_same hf2
  have y8 : l2 ≠ f2 := ne_of_none (by walk_at "hp") hf2
  have y9 : r2 ≠ f2 := ne_of_none (by walk_at "hp") hf2
  walk_at "w"
  have l20 : H l2 = none := by walk_at "fr"
  have r20 : H r2 = none := by walk_at "fr"
  have f20 : H f2 = none := by walk_at "fr"
  refine k x l2 r2 f2 _ hx l20 r20 f20 ⟨⟨dx', upd_same⟩, by walk_at "hp", by walk_at "hp", by walk_at "hp", y5, y8, y9⟩ ?_
  exact ((((((k0.own l20).own hx).own r20).own hx).own f20).own hx)
def sp_Links_copy (a : AD) : Sp := fun vs H Q E => ∃ (x l r f : Addr) (n : Int) (L R : List Int) (F : List Bool), vs = [.ref x] ∧ Lnk a H x l r f n L R F ∧ 0 ≤ n ∧ n ≤ 60 ∧ newSp a n L R F H Q
/-! ### reading a dump -/
def sp_is_number (a : AD) : Sp := fun vs H Q E => ∃ z : Str, vs = [.str z] ∧ z.length ≤ 1000000 ∧ Q (.bl (isNumW z)) H
theorem sc_is_number : FnScope ["word"] ["word"] (defScope s_is_number) := ⟨rfl, rfl, rfl, by decide +kernel, rfl, by decide +kernel, by decide +kernel⟩
theorem ok_is_number {P : Program} {w : World} {K : PySem.W.Frag} {mg : Str → Option Value} {base : Heap} {a : AD} (T : Txt P K mg a) : FnA P w K mg base 2 a.f_is_number ["word"] (sp_is_number a) := by
  obtain ⟨fd, F, b⟩ := T.F_is_number
  refine FnA.of F sc_is_number b (fun vs H Q E h => by first | (obtain ⟨rfl, _⟩ := h; rfl) | (obtain ⟨_, rfl, _⟩ := h; rfl) | (obtain ⟨_, _, rfl, _⟩ := h; rfl) | (obtain ⟨_, _, _, rfl, _⟩ := h; rfl) | (obtain ⟨_, _, _, _, rfl, _⟩ := h; rfl) | (obtain ⟨_, _, _, _, _, rfl, _⟩ := h; rfl) | (obtain ⟨_, _, _, _, _, _, rfl, _⟩ := h; rfl) | (obtain ⟨_, _, _, _, _, _, _, rfl, _⟩ := h; rfl) | (obtain ⟨_, _, _, _, _, _, _, _, rfl, _⟩ := h; rfl) | (obtain ⟨_, _, _, _, _, _, _, _, _, rfl, _⟩ := h; rfl) | (obtain ⟨_, _, _, _, _, _, _, _, _, _, rfl, _⟩ := h; rfl) | (obtain ⟨_, _, _, _, _, _, _, _, _, _, _, rfl, _⟩ := h; rfl) | (obtain ⟨_, _, _, _, _, _, _, _, _, _, _, _, rfl, _⟩ := h; rfl) | (obtain ⟨_, _, _, _, _, _, _, _, _, _, _, _, _, rfl, _⟩ := h; rfl) | (obtain ⟨_, _, _, _, _, _, _, _, _, _, _, _, _, _, rfl, _⟩ := h; rfl) | (obtain ⟨_, _, _, _, _, _, _, _, _, _, _, _, _, _, _, rfl, _⟩ := h; rfl) | (obtain ⟨_, _, _, _, _, _, _, _, _, _, _, _, _, _, _, _, rfl, _⟩ := h; rfl) | (obtain ⟨_, _, _, _, _, _, _, _, _, _, _, _, _, _, _, _, _, rfl, _⟩ := h; rfl) | (obtain ⟨_, _, _, _, _, _, _, _, _, _, _, _, _, _, _, _, _, _, rfl, _⟩ := h; rfl) | (obtain ⟨_, _, _, _, _, _, _, _, _, _, _, _, _, _, _, _, _, _, _, rfl, _⟩ := h; rfl) | (obtain ⟨_, _, _, _, _, _, _, _, _, _, _, _, _, _, _, _, _, _, _, _, rfl, _⟩ := h; rfl) | (obtain ⟨_, _, _, _, _, _, _, _, _, _, _, _, _, _, _, _, _, _, _, _, _, rfl, _⟩ := h; rfl) | (obtain ⟨_, _, _, _, _, _, _, _, _, _, _, _, _, _, _, _, _, _, _, _, _, _, rfl, _⟩ := h; rfl) | (obtain ⟨_, _, _, _, _, _, _, _, _, _, _, _, _, _, _, _, _, _, _, _, _, _, _, rfl, _⟩ := h; rfl)) (fun cdv A outer s H vs Q E hr tk pz h => ?_)
  have hu := hr.units
  have hrH := L2H.roomH_of hr
  obtain ⟨z, rfl, hz, k⟩ := h
  refine ⟨_, (pss_cons (ps_if (pt_not (PW.pt (pw_and (pt_tru (pe_bm0 PySem.F.plainAttrs_str PySem.F.slot_str_isascii PySem.F.type_str_isascii m_isascii (pv 0))) (pw_and1 (pt_tru (pe_bm0 PySem.F.plainAttrs_str PySem.F.slot_str_isdigit PySem.F.type_str_isdigit m_isdigit (pv 0))))))) (pss_one (ps_ret pe_bl)) pss_nil)
      (pss_one (ps_ret (pe_or (pe_cmpR (o_eq hu) (pv 0) pe_str (nomark _)) (pe_one (pe_and (pe_cmpR (o_ne hu) (pe_ix ix_seq (pv 0) pe_int (fun _ _ => rfl)) pe_str (nomark _)) (pe_one (pe_cmpR op_le (pe_callB (b_len) rfl T.b_len (by decide +kernel) (pa_cons (pv 0) pa_nil)) (T.k_MOST_DIGITS.elim fun t hm => pe_glob (v := .int 9) rfl hm ⟨t, rfl⟩) (nomark _))))))))), ?_⟩
  show (_ : Ends → L2.St → Hp → Prop) _ [some _] _
  try dsimp only [L2H.cxH, cxOf]
  walk_at "w"
  unfold isNumW at k
  refine w_iteb (fun c1 => ?_) (fun c1 => ?_)
  · walk_at "w"
    refine w_itenb (fun c2 => ?_) (fun c2 => ?_)
    · walk_at "w"
      rw [c1, c2] at k
      exact k
    · walk_at "w"
      obtain ⟨d, ne⟩ := num_digits c1 c2
      have hc : z.cps.toList[(0 : Int).toNat]? = some (z.cps.toList.getD 0 default) := by
        have : (TL.tl z) ≠ [] := ne
        cases e : z.cps.toList with
        | nil => exact absurd e this
        | cons c r => rfl
      rw [c1, c2] at k
      refine w_ite (fun c3 => ?_) (fun c3 => ?_)
      · rw [show decide (z = ("0" : Str)) = true by simpa using c3] at k
        exact k
      · rw [show decide (z = ("0" : Str)) = false by simpa using c3] at k
        walk_at "w"
        refine w_ixS (by rw [sizeLine_eq]; omega) (by omega) hc ?_
        walk_at "w"
        refine w_iteN (fun c4 => ?_) (fun c4 => ?_)
        · rw [show decide ((⟨#[z.cps.toList.getD 0 default]⟩ : Str) = ("0" : Str)) = false by simpa using c4] at k
          walk_at "w"
          exact k
        · rw [show decide ((⟨#[z.cps.toList.getD 0 default]⟩ : Str) = ("0" : Str)) = true by simpa using c4] at k
          walk_at "w"
          exact k
  · walk_at "w"
    rw [c1] at k
    exact k
/-- a new list of the numbers, or None -/
def rdSp (H : Hp) (Q : VK) (R : List Int → Prop) : Prop := (∀ us, R us → ∀ r H', H r = none → Kp [] H H' → H' r = some (.lst (us.map V.int)) → Q (.ref r) H') ∧ ((∀ us, ¬R us) → ∀ H', Kp [] H H' → Q .non H')
def sp__numbers (a : AD) : Sp := fun vs H Q E => ∃ z : Str, vs = [.str z] ∧ z.length ≤ 1000000 ∧ rdSp H Q (fun us => numsOf z = some us)
theorem sc__numbers : FnScope ["part", "words", "word"] ["part"] (defScope s__numbers) := ⟨rfl, rfl, rfl, by decide +kernel, rfl, by decide +kernel, by decide +kernel⟩
theorem ok__numbers {P : Program} {w : World} {K : PySem.W.Frag} {mg : Str → Option Value} {base : Heap} {a : AD} (T : Txt P K mg a) (G_is_number : FnA P w K mg base 2 a.f_is_number ["word"] (sp_is_number a)) : FnA P w K mg base 3 a.f__numbers ["part"] (sp__numbers a) := by
  obtain ⟨fd, F, b⟩ := T.F__numbers
  refine FnA.of F sc__numbers b (fun vs H Q E h => by first | (obtain ⟨rfl, _⟩ := h; rfl) | (obtain ⟨_, rfl, _⟩ := h; rfl) | (obtain ⟨_, _, rfl, _⟩ := h; rfl) | (obtain ⟨_, _, _, rfl, _⟩ := h; rfl) | (obtain ⟨_, _, _, _, rfl, _⟩ := h; rfl) | (obtain ⟨_, _, _, _, _, rfl, _⟩ := h; rfl) | (obtain ⟨_, _, _, _, _, _, rfl, _⟩ := h; rfl) | (obtain ⟨_, _, _, _, _, _, _, rfl, _⟩ := h; rfl) | (obtain ⟨_, _, _, _, _, _, _, _, rfl, _⟩ := h; rfl) | (obtain ⟨_, _, _, _, _, _, _, _, _, rfl, _⟩ := h; rfl) | (obtain ⟨_, _, _, _, _, _, _, _, _, _, rfl, _⟩ := h; rfl) | (obtain ⟨_, _, _, _, _, _, _, _, _, _, _, rfl, _⟩ := h; rfl) | (obtain ⟨_, _, _, _, _, _, _, _, _, _, _, _, rfl, _⟩ := h; rfl) | (obtain ⟨_, _, _, _, _, _, _, _, _, _, _, _, _, rfl, _⟩ := h; rfl) | (obtain ⟨_, _, _, _, _, _, _, _, _, _, _, _, _, _, rfl, _⟩ := h; rfl) | (obtain ⟨_, _, _, _, _, _, _, _, _, _, _, _, _, _, _, rfl, _⟩ := h; rfl) | (obtain ⟨_, _, _, _, _, _, _, _, _, _, _, _, _, _, _, _, rfl, _⟩ := h; rfl) | (obtain ⟨_, _, _, _, _, _, _, _, _, _, _, _, _, _, _, _, _, rfl, _⟩ := h; rfl) | (obtain ⟨_, _, _, _, _, _, _, _, _, _, _, _, _, _, _, _, _, _, rfl, _⟩ := h; rfl) | (obtain ⟨_, _, _, _, _, _, _, _, _, _, _, _, _, _, _, _, _, _, _, rfl, _⟩ := h; rfl) | (obtain ⟨_, _, _, _, _, _, _, _, _, _, _, _, _, _, _, _, _, _, _, _, rfl, _⟩ := h; rfl) | (obtain ⟨_, _, _, _, _, _, _, _, _, _, _, _, _, _, _, _, _, _, _, _, _, rfl, _⟩ := h; rfl) | (obtain ⟨_, _, _, _, _, _, _, _, _, _, _, _, _, _, _, _, _, _, _, _, _, _, rfl, _⟩ := h; rfl) | (obtain ⟨_, _, _, _, _, _, _, _, _, _, _, _, _, _, _, _, _, _, _, _, _, _, _, rfl, _⟩ := h; rfl)) (fun cdv A outer s H vs Q E hr tk pz h => ?_)
  have hu := hr.units
  have hrH := L2H.roomH_of hr
  obtain ⟨z, rfl, hz, k⟩ := h
  refine ⟨_, (pss_cons (ps_set (i := 1) sc__numbers.nd rfl (Or.inl rfl) (pe_bm PySem.F.plainAttrs_str PySem.F.slot_str_split PySem.F.type_str_split m_split (pv 0) (pa_cons pe_str pa_nil)))
      (pss_cons (ps_for pz rfl (pi_list (pv 1)) (pg_name (i := 2) sc__numbers.nd rfl (Or.inl rfl))
      (pss_one (ps_if (pt_not (pt_tru (pe_callA G_is_number (Room.mono hr (by decide)) T.n_is_number tk (pa_cons (pv 2) pa_nil)))) (pss_one (ps_ret pe_non)) pss_nil)))
      (pss_one (ps_ret (pe_lc (own := [("word", 2)]) (g := (gName 2)) (tt := tYes) rfl sc__numbers.nd (pi_list (pv 1)) (blkOk_by (own := [("word", 2)]) (N := ["part", "words", "word"]) (sc := defScope s__numbers) (by decide +kernel)) (fun _ _ _ _ _ => (pg_name (i := 2) sc__numbers.nd rfl (Or.inl rfl))) (fun _ _ _ _ _ => pts_nil) (fun _ _ _ _ _ => (pe_callTy b_intA rfl T.b_int (by decide +kernel) (pa_cons (pv 2) pa_nil)))))))), ?_⟩
  show (_ : Ends → L2.St → Hp → Prop) _ [some _, none, none] _
  try dsimp only [L2H.cxH, cxOf]
  walk_at "w"
  have hlen := split_len (z := z) (y := " ") (by rw [tl_sp]; simp) k_sp
  have hpl := split_part_len (z := z) (y := " ") (by rw [tl_sp]; simp) k_sp
  unfold rdSp numsOf at k
  generalize Txt.split z " " = ws at hlen hpl k
  intro p hp
  have hp1 : upd H p (.lst (ws.map V.str)) p = some (.lst (ws.map V.str)) := upd_same
  have hk1 : Kp [] H (upd H p (.lst (ws.map V.str))) := Kp.refl.new hp
  generalize upd H p (.lst (ws.map V.str)) = H1 at hp1 hk1
  walk_at "w"
  refine w_forM (us := ws) (f := V.str) hp1 (fun i σ' H' => (∃ x, σ' = [some (.str z), some (.ref p), x]) ∧ H' = H1 ∧ ∀ j w, j < i → ws[j]? = some w → isNumW w = true) ⟨⟨_, rfl⟩, rfl, fun j w hj => by omega⟩ (fun i σ' H' _ q => by rw [q.2.1]; exact hp1) ?_ ?_
  · rintro i u σ' H' hu ⟨⟨x, rfl⟩, rfl, hj⟩
    walk_at "w"
    refine ⟨u, rfl, Nat.le_trans (hpl u (List.mem_of_getElem? hu)) hz, ?_⟩
    walk_at "w"
    refine w_itenb (fun c => ?_) (fun c => ?_)
    · walk_at "w"
      refine k.2 (fun us q => ?_) _ hk1
      split at q
      · rename_i q2
        have := List.all_eq_true.mp q2 u (List.mem_of_getElem? hu)
        rw [c] at this; cases this
      · cases q
    · walk_at "w"
      refine ⟨⟨_, rfl⟩, rfl, fun j w hj' hw => ?_⟩
      by_cases q : j < i
      · exact hj j w q hw
      · obtain rfl : j = i := by omega
        rw [hu] at hw
        cases hw
        exact c
  · rintro σ' H' ⟨⟨x, rfl⟩, rfl, hj⟩
    have hall : ws.all isNumW = true := by
      rw [List.all_eq_true]
      intro w hw
      obtain ⟨j, hjl, rfl⟩ := List.getElem_of_mem hw
      exact hj j _ hjl (List.getElem?_eq_getElem hjl)
    walk_at "w"
    refine w_lcM (us := ws) (f := V.str) (f' := V.int) (fun w => some (numV w)) hp1 (by rw [sizeLine_eq]; omega) ?_ ?_
    · intro D i u acc H2 hD hu hk hA hl
      have hn := num_text (List.all_eq_true.mp hall u (List.mem_of_getElem? hu))
      walk_at "w"
      refine ⟨rfl, ?_⟩
      walk_at "w"
      refine w_intS hn.1 hn.2.2 ?_
      exact w_keep hk hA hl hD rfl
    · intro D H2 hD hk hA
      rw [fm_some] at hA
      exact k.1 _ (by rw [if_pos hall]) D H2 (hk1.free hD) (hk1.trans hk) hA
def RightsOk (us : List Int) : Prop := us.length ≤ 61 ∧ ∀ (i : Nat) (u : Int), us[i]? = some u → (i : Int) < u ∧ u ≤ us.length
def LeftsOk (n : Int) (us : List Int) : Prop := (us.length : Int) = n + 1 ∧ ∀ (i : Nat) (u : Int), us[i]? = some u → u ≤ (i : Int)
def outsOk (n : Int) : Int → List Int → Prop
  | _, [] => True
  | last, u :: us => last < u ∧ u ≤ n ∧ outsOk n u us
def RdR (z : Str) (us : List Int) : Prop := numsOf z = some us ∧ RightsOk us
def RdL (n : Int) (z : Str) (us : List Int) : Prop := numsOf z = some us ∧ LeftsOk n us
def RdO (n : Int) (z : Str) (us : List Int) : Prop := (z = "none" ∧ us = []) ∨ (z ≠ "none" ∧ numsOf z = some us ∧ outsOk n 0 us)
def sp__read_rights (a : AD) : Sp := fun vs H Q E => ∃ z : Str, vs = [.str z] ∧ z.length ≤ 1000000 ∧ rdSp H Q (RdR z)
theorem sc__read_rights : FnScope ["part", "rights", "node", "link"] ["part"] (defScope s__read_rights) := ⟨rfl, rfl, rfl, by decide +kernel, rfl, by decide +kernel, by decide +kernel⟩
theorem ok__read_rights {P : Program} {w : World} {K : PySem.W.Frag} {mg : Str → Option Value} {base : Heap} {a : AD} (T : Txt P K mg a) (G__numbers : FnA P w K mg base 3 a.f__numbers ["part"] (sp__numbers a)) : FnA P w K mg base 4 a.f__read_rights ["part"] (sp__read_rights a) := by
  obtain ⟨fd, F, b⟩ := T.F__read_rights
  refine FnA.of F sc__read_rights b (fun vs H Q E h => by first | (obtain ⟨rfl, _⟩ := h; rfl) | (obtain ⟨_, rfl, _⟩ := h; rfl) | (obtain ⟨_, _, rfl, _⟩ := h; rfl) | (obtain ⟨_, _, _, rfl, _⟩ := h; rfl) | (obtain ⟨_, _, _, _, rfl, _⟩ := h; rfl) | (obtain ⟨_, _, _, _, _, rfl, _⟩ := h; rfl) | (obtain ⟨_, _, _, _, _, _, rfl, _⟩ := h; rfl) | (obtain ⟨_, _, _, _, _, _, _, rfl, _⟩ := h; rfl) | (obtain ⟨_, _, _, _, _, _, _, _, rfl, _⟩ := h; rfl) | (obtain ⟨_, _, _, _, _, _, _, _, _, rfl, _⟩ := h; rfl) | (obtain ⟨_, _, _, _, _, _, _, _, _, _, rfl, _⟩ := h; rfl) | (obtain ⟨_, _, _, _, _, _, _, _, _, _, _, rfl, _⟩ := h; rfl) | (obtain ⟨_, _, _, _, _, _, _, _, _, _, _, _, rfl, _⟩ := h; rfl) | (obtain ⟨_, _, _, _, _, _, _, _, _, _, _, _, _, rfl, _⟩ := h; rfl) | (obtain ⟨_, _, _, _, _, _, _, _, _, _, _, _, _, _, rfl, _⟩ := h; rfl) | (obtain ⟨_, _, _, _, _, _, _, _, _, _, _, _, _, _, _, rfl, _⟩ := h; rfl) | (obtain ⟨_, _, _, _, _, _, _, _, _, _, _, _, _, _, _, _, rfl, _⟩ := h; rfl) | (obtain ⟨_, _, _, _, _, _, _, _, _, _, _, _, _, _, _, _, _, rfl, _⟩ := h; rfl) | (obtain ⟨_, _, _, _, _, _, _, _, _, _, _, _, _, _, _, _, _, _, rfl, _⟩ := h; rfl) | (obtain ⟨_, _, _, _, _, _, _, _, _, _, _, _, _, _, _, _, _, _, _, rfl, _⟩ := h; rfl) | (obtain ⟨_, _, _, _, _, _, _, _, _, _, _, _, _, _, _, _, _, _, _, _, rfl, _⟩ := h; rfl) | (obtain ⟨_, _, _, _, _, _, _, _, _, _, _, _, _, _, _, _, _, _, _, _, _, rfl, _⟩ := h; rfl) | (obtain ⟨_, _, _, _, _, _, _, _, _, _, _, _, _, _, _, _, _, _, _, _, _, _, rfl, _⟩ := h; rfl) | (obtain ⟨_, _, _, _, _, _, _, _, _, _, _, _, _, _, _, _, _, _, _, _, _, _, _, rfl, _⟩ := h; rfl)) (fun cdv A outer s H vs Q E hr tk pz h => ?_)
  have hu := hr.units
  have hrH := L2H.roomH_of hr
  obtain ⟨z, rfl, hz, k1, k2⟩ := h
  refine ⟨_, (pss_cons (ps_set (i := 1) sc__read_rights.nd rfl (Or.inl rfl) (pe_callA G__numbers (Room.mono hr (by decide)) T.n__numbers tk (pa_cons (pv 0) pa_nil)))
      (pss_cons (ps_if (PW.pt (pw_or (pt_cmpA o_isN (pv 1) pe_non (nomark _)) (pw_or1 (pt_cmpA op_gt (pe_callB (b_len) rfl T.b_len (by decide +kernel) (pa_cons (pv 1) pa_nil)) (pe_op o_add (ClX.pe_cval (pe_glob (v := .ref a.Links) rfl T.c_Links rfl)) pe_int) (nomark _))))) (pss_one (ps_ret pe_non)) pss_nil)
      (pss_cons (ps_for pz rfl (pi_enum rfl T.b_enumerate (pa_cons (pv 1) pa_nil)) (pg_tup (n := 2) rfl (pgs_cons (pg_name (i := 2) sc__read_rights.nd rfl (Or.inl rfl)) (pgs_cons (pg_name (i := 3) sc__read_rights.nd rfl (Or.inl rfl)) pgs_nil)))
      (pss_one (ps_if (pt_not (pt_chainA op_lt op_le (pv 2) (pv 3) (pe_callB (b_len) rfl T.b_len (by decide +kernel) (pa_cons (pv 1) pa_nil)))) (pss_one (ps_ret pe_non)) pss_nil)))
      (pss_one (ps_ret (pv 1)))))), ?_⟩
  show (_ : Ends → L2.St → Hp → Prop) _ [some _, none, none, none] _
  try dsimp only [L2H.cxH, cxOf]
  walk_at "w"
  refine ⟨z, rfl, hz, fun us hus r H1 hr hk hr1 => ?_, fun hno H1 hk => ?_⟩
  · have hlen := (numsOf_len hus).2.1
    have bad : ¬RightsOk us → ∀ us', ¬RdR z us' := fun hb us' q => by
      have e := q.1
      rw [hus] at e
      cases e
      exact hb q.2
    walk_at "w"
    refine w_ite (fun c => ?_) (fun c => ?_)
    · walk_at "w"
      exact k2 (bad fun q => by have := q.1; omega) H1 hk
    · walk_at "w"
      refine w_enumM hr1 (fun i σ' H' => (∃ x y, σ' = [some (.str z), some (.ref r), x, y]) ∧ Kp [] H1 H' ∧ ∀ (j : Nat) (u : Int), j < i → us[j]? = some u → (j : Int) < u ∧ u ≤ us.length) ⟨⟨_, _, rfl⟩, Kp.refl, fun j w hj => by omega⟩ (fun i σ' H' _ q => q.2.1.at0 hr1) ?_ ?_
      · rintro i u T σ' H' hu ⟨⟨x, y, rfl⟩, hk2, hj⟩ hT
        have hr2 : H' r = some (.lst (us.map V.int)) := hk2.at0 hr1
        walk_at "w"
        have no : ¬((i : Int) < u ∧ u ≤ us.length) → Q .non (upd H' T (.tup [.int (i : Int), .int u])) := fun hb => k2 (bad fun q => hb (q.2 i u hu)) _ ((hk.trans hk2).new hT)
        refine w_ite (fun c1 => ?_) (fun c1 => ?_)
        · walk_at "w"
          refine w_iteN (fun c2 => ?_) (fun c2 => ?_)
          · walk_at "w"
            exact no fun q => c2 q.2
          · walk_at "w"
            refine ⟨⟨_, _, rfl⟩, hk2.new hT, fun j w hj' hw => ?_⟩
            by_cases q : j < i
            · exact hj j w q hw
            · obtain rfl : j = i := by omega
              rw [hu] at hw
              cases hw
              exact ⟨c1, c2⟩
        · walk_at "w"
          exact no fun q => c1 q.1
      · rintro σ' H' ⟨⟨x, y, rfl⟩, hk2, hj⟩
        walk_at "w"
        exact k1 us ⟨hus, by omega, fun i u hu => hj i u (List.getElem?_eq_some_iff.mp hu).1 hu⟩ r H' hr (hk.trans hk2) (hk2.at0 hr1)
  · walk_at "w"
    exact k2 (fun us q => hno us q.1) H1 hk
def sp__read_lefts (a : AD) : Sp := fun vs H Q E => ∃ (z : Str) (n : Int), vs = [.str z, .int n] ∧ z.length ≤ 1000000 ∧ rdSp H Q (RdL n z)
theorem sc__read_lefts : FnScope ["part", "size", "lefts", "index", "link"] ["part", "size"] (defScope s__read_lefts) := ⟨rfl, rfl, rfl, by decide +kernel, rfl, by decide +kernel, by decide +kernel⟩
theorem ok__read_lefts {P : Program} {w : World} {K : PySem.W.Frag} {mg : Str → Option Value} {base : Heap} {a : AD} (T : Txt P K mg a) (G__numbers : FnA P w K mg base 3 a.f__numbers ["part"] (sp__numbers a)) : FnA P w K mg base 4 a.f__read_lefts ["part", "size"] (sp__read_lefts a) := by
  obtain ⟨fd, F, b⟩ := T.F__read_lefts
  refine FnA.of F sc__read_lefts b (fun vs H Q E h => by first | (obtain ⟨rfl, _⟩ := h; rfl) | (obtain ⟨_, rfl, _⟩ := h; rfl) | (obtain ⟨_, _, rfl, _⟩ := h; rfl) | (obtain ⟨_, _, _, rfl, _⟩ := h; rfl) | (obtain ⟨_, _, _, _, rfl, _⟩ := h; rfl) | (obtain ⟨_, _, _, _, _, rfl, _⟩ := h; rfl) | (obtain ⟨_, _, _, _, _, _, rfl, _⟩ := h; rfl) | (obtain ⟨_, _, _, _, _, _, _, rfl, _⟩ := h; rfl) | (obtain ⟨_, _, _, _, _, _, _, _, rfl, _⟩ := h; rfl) | (obtain ⟨_, _, _, _, _, _, _, _, _, rfl, _⟩ := h; rfl) | (obtain ⟨_, _, _, _, _, _, _, _, _, _, rfl, _⟩ := h; rfl) | (obtain ⟨_, _, _, _, _, _, _, _, _, _, _, rfl, _⟩ := h; rfl) | (obtain ⟨_, _, _, _, _, _, _, _, _, _, _, _, rfl, _⟩ := h; rfl) | (obtain ⟨_, _, _, _, _, _, _, _, _, _, _, _, _, rfl, _⟩ := h; rfl) | (obtain ⟨_, _, _, _, _, _, _, _, _, _, _, _, _, _, rfl, _⟩ := h; rfl) | (obtain ⟨_, _, _, _, _, _, _, _, _, _, _, _, _, _, _, rfl, _⟩ := h; rfl) | (obtain ⟨_, _, _, _, _, _, _, _, _, _, _, _, _, _, _, _, rfl, _⟩ := h; rfl) | (obtain ⟨_, _, _, _, _, _, _, _, _, _, _, _, _, _, _, _, _, rfl, _⟩ := h; rfl) | (obtain ⟨_, _, _, _, _, _, _, _, _, _, _, _, _, _, _, _, _, _, rfl, _⟩ := h; rfl) | (obtain ⟨_, _, _, _, _, _, _, _, _, _, _, _, _, _, _, _, _, _, _, rfl, _⟩ := h; rfl) | (obtain ⟨_, _, _, _, _, _, _, _, _, _, _, _, _, _, _, _, _, _, _, _, rfl, _⟩ := h; rfl) | (obtain ⟨_, _, _, _, _, _, _, _, _, _, _, _, _, _, _, _, _, _, _, _, _, rfl, _⟩ := h; rfl) | (obtain ⟨_, _, _, _, _, _, _, _, _, _, _, _, _, _, _, _, _, _, _, _, _, _, rfl, _⟩ := h; rfl) | (obtain ⟨_, _, _, _, _, _, _, _, _, _, _, _, _, _, _, _, _, _, _, _, _, _, _, rfl, _⟩ := h; rfl)) (fun cdv A outer s H vs Q E hr tk pz h => ?_)
  have hu := hr.units
  have hrH := L2H.roomH_of hr
  obtain ⟨z, n, rfl, hz, k1, k2⟩ := h
  refine ⟨_, (pss_cons (ps_set (i := 2) sc__read_lefts.nd rfl (Or.inl rfl) (pe_callA G__numbers (Room.mono hr (by decide)) T.n__numbers tk (pa_cons (pv 0) pa_nil)))
      (pss_cons (ps_if (PW.pt (pw_or (pt_cmpA o_isN (pv 2) pe_non (nomark _)) (pw_or1 (pt_cmpA (o_ne hu) (pe_callB (b_len) rfl T.b_len (by decide +kernel) (pa_cons (pv 2) pa_nil)) (pe_op o_add (pv 1) pe_int) (nomark _))))) (pss_one (ps_ret pe_non)) pss_nil)
      (pss_cons (ps_for pz rfl (pi_enum rfl T.b_enumerate (pa_cons (pv 2) pa_nil)) (pg_tup (n := 2) rfl (pgs_cons (pg_name (i := 3) sc__read_lefts.nd rfl (Or.inl rfl)) (pgs_cons (pg_name (i := 4) sc__read_lefts.nd rfl (Or.inl rfl)) pgs_nil)))
      (pss_one (ps_if (pt_cmpA op_gt (pv 4) (pv 3) (nomark _)) (pss_one (ps_ret pe_non)) pss_nil)))
      (pss_one (ps_ret (pv 2)))))), ?_⟩
  show (_ : Ends → L2.St → Hp → Prop) _ [some _, some _, none, none, none] _
  try dsimp only [L2H.cxH, cxOf]
  walk_at "w"
  refine ⟨z, rfl, hz, fun us hus r H1 hr hk hr1 => ?_, fun hno H1 hk => ?_⟩
  · have hlen := (numsOf_len hus).2.1
    have bad : ¬LeftsOk n us → ∀ us', ¬RdL n z us' := fun hb us' q => by
      have e := q.1
      rw [hus] at e
      cases e
      exact hb q.2
    walk_at "w"
    refine w_iteN (fun c => ?_) (fun c => ?_)
    · walk_at "w"
      exact k2 (bad fun q => c q.1) H1 hk
    · walk_at "w"
      refine w_enumM hr1 (fun i σ' H' => (∃ x y, σ' = [some (.str z), some (.int n), some (.ref r), x, y]) ∧ Kp [] H1 H' ∧ ∀ (j : Nat) (u : Int), j < i → us[j]? = some u → u ≤ (j : Int)) ⟨⟨_, _, rfl⟩, Kp.refl, fun j w hj => by omega⟩ (fun i σ' H' _ q => q.2.1.at0 hr1) ?_ ?_
      · rintro i u T σ' H' hu ⟨⟨x, y, rfl⟩, hk2, hj⟩ hT
        walk_at "w"
        refine w_ite (fun c1 => ?_) (fun c1 => ?_)
        · walk_at "w"
          exact k2 (bad fun q => by have := q.2 i u hu; omega) _ ((hk.trans hk2).new hT)
        · walk_at "w"
          refine ⟨⟨_, _, rfl⟩, hk2.new hT, fun j w hj' hw => ?_⟩
          by_cases q : j < i
          · exact hj j w q hw
          · obtain rfl : j = i := by omega
            rw [hu] at hw
            cases hw
            omega
      · rintro σ' H' ⟨⟨x, y, rfl⟩, hk2, hj⟩
        walk_at "w"
        exact k1 us ⟨hus, c, fun i u hu => hj i u (List.getElem?_eq_some_iff.mp hu).1 hu⟩ r H' hr (hk.trans hk2) (hk2.at0 hr1)
  · walk_at "w"
    exact k2 (fun us q => hno us q.1) H1 hk
theorem take_snoc {α : Type} {us : List α} {i : Nat} {u : α} (h : us[i]? = some u) : us.take (i + 1) = us.take i ++ [u] := by
  rw [List.take_succ, h]; rfl
/-- outsOk from the front -/
theorem outsOk_snoc {n : Int} : ∀ {us : List Int} {last u : Int}, outsOk n last (us ++ [u]) ↔ outsOk n last us ∧ (us.getLastD last < u ∧ u ≤ n)
  | [], last, u => by simp [outsOk]
  | v :: us, last, u => by
    rw [List.cons_append]
    unfold outsOk
    rw [outsOk_snoc]
    have : (v :: us).getLastD last = us.getLastD v := by cases us <;> rfl
    rw [this]
    simp only [and_assoc]
theorem outsOk_app {n : Int} : ∀ {us vs : List Int} {last : Int}, outsOk n last (us ++ vs) → outsOk n last us
  | [], _, _, _ => trivial
  | v :: us, vs, last, h => ⟨h.1, h.2.1, outsOk_app h.2.2⟩
def sp__read_outs (a : AD) : Sp := fun vs H Q E => ∃ (z : Str) (n : Int), vs = [.str z, .int n] ∧ z.length ≤ 1000000 ∧ rdSp H Q (RdO n z)
theorem sc__read_outs : FnScope ["part", "size", "outs", "last", "node"] ["part", "size"] (defScope s__read_outs) := ⟨rfl, rfl, rfl, by decide +kernel, rfl, by decide +kernel, by decide +kernel⟩
theorem ok__read_outs {P : Program} {w : World} {K : PySem.W.Frag} {mg : Str → Option Value} {base : Heap} {a : AD} (T : Txt P K mg a) (G__numbers : FnA P w K mg base 3 a.f__numbers ["part"] (sp__numbers a)) : FnA P w K mg base 4 a.f__read_outs ["part", "size"] (sp__read_outs a) := by
  obtain ⟨fd, F, b⟩ := T.F__read_outs
  refine FnA.of F sc__read_outs b (fun vs H Q E h => by first | (obtain ⟨rfl, _⟩ := h; rfl) | (obtain ⟨_, rfl, _⟩ := h; rfl) | (obtain ⟨_, _, rfl, _⟩ := h; rfl) | (obtain ⟨_, _, _, rfl, _⟩ := h; rfl) | (obtain ⟨_, _, _, _, rfl, _⟩ := h; rfl) | (obtain ⟨_, _, _, _, _, rfl, _⟩ := h; rfl) | (obtain ⟨_, _, _, _, _, _, rfl, _⟩ := h; rfl) | (obtain ⟨_, _, _, _, _, _, _, rfl, _⟩ := h; rfl) | (obtain ⟨_, _, _, _, _, _, _, _, rfl, _⟩ := h; rfl) | (obtain ⟨_, _, _, _, _, _, _, _, _, rfl, _⟩ := h; rfl) | (obtain ⟨_, _, _, _, _, _, _, _, _, _, rfl, _⟩ := h; rfl) | (obtain ⟨_, _, _, _, _, _, _, _, _, _, _, rfl, _⟩ := h; rfl) | (obtain ⟨_, _, _, _, _, _, _, _, _, _, _, _, rfl, _⟩ := h; rfl) | (obtain ⟨_, _, _, _, _, _, _, _, _, _, _, _, _, rfl, _⟩ := h; rfl) | (obtain ⟨_, _, _, _, _, _, _, _, _, _, _, _, _, _, rfl, _⟩ := h; rfl) | (obtain ⟨_, _, _, _, _, _, _, _, _, _, _, _, _, _, _, rfl, _⟩ := h; rfl) | (obtain ⟨_, _, _, _, _, _, _, _, _, _, _, _, _, _, _, _, rfl, _⟩ := h; rfl) | (obtain ⟨_, _, _, _, _, _, _, _, _, _, _, _, _, _, _, _, _, rfl, _⟩ := h; rfl) | (obtain ⟨_, _, _, _, _, _, _, _, _, _, _, _, _, _, _, _, _, _, rfl, _⟩ := h; rfl) | (obtain ⟨_, _, _, _, _, _, _, _, _, _, _, _, _, _, _, _, _, _, _, rfl, _⟩ := h; rfl) | (obtain ⟨_, _, _, _, _, _, _, _, _, _, _, _, _, _, _, _, _, _, _, _, rfl, _⟩ := h; rfl) | (obtain ⟨_, _, _, _, _, _, _, _, _, _, _, _, _, _, _, _, _, _, _, _, _, rfl, _⟩ := h; rfl) | (obtain ⟨_, _, _, _, _, _, _, _, _, _, _, _, _, _, _, _, _, _, _, _, _, _, rfl, _⟩ := h; rfl) | (obtain ⟨_, _, _, _, _, _, _, _, _, _, _, _, _, _, _, _, _, _, _, _, _, _, _, rfl, _⟩ := h; rfl)) (fun cdv A outer s H vs Q E hr tk pz h => ?_)
  have hu := hr.units
  have hrH := L2H.roomH_of hr
  obtain ⟨z, n, rfl, hz, k1, k2⟩ := h
  refine ⟨_, (pss_cons (ps_if (pt_cmpA (o_eq hu) (pv 0) pe_str (nomark _)) (pss_one (ps_ret (pe_lst pa_nil))) pss_nil)
      (pss_cons (ps_set (i := 2) sc__read_outs.nd rfl (Or.inl rfl) (pe_callA G__numbers (Room.mono hr (by decide)) T.n__numbers tk (pa_cons (pv 0) pa_nil)))
      (pss_cons (ps_if (pt_cmpA o_isN (pv 2) pe_non (nomark _)) (pss_one (ps_ret pe_non)) pss_nil)
      (pss_cons (ps_set (i := 3) sc__read_outs.nd rfl (Or.inl rfl) pe_int)
      (pss_cons (ps_for pz rfl (pi_list (pv 2)) (pg_name (i := 4) sc__read_outs.nd rfl (Or.inl rfl))
      (pss_cons (ps_if (pt_not (pt_chainA op_lt op_le (pv 3) (pv 4) (pv 1))) (pss_one (ps_ret pe_non)) pss_nil)
      (pss_one (ps_set (i := 3) sc__read_outs.nd rfl (Or.inl rfl) (pv 4)))))
      (pss_one (ps_ret (pv 2)))))))), ?_⟩
  show (_ : Ends → L2.St → Hp → Prop) _ [some _, some _, none, none, none] _
  try dsimp only [L2H.cxH, cxOf]
  walk_at "w"
  refine w_ite (fun c0 => ?_) (fun c0 => ?_)
  · walk_at "w"
    intro r hr
    exact k1 [] (.inl ⟨c0, rfl⟩) r _ hr (Kp.refl.new hr) upd_same
  · walk_at "w"
    refine ⟨z, rfl, hz, fun us hus r H1 hr hk hr1 => ?_, fun hno H1 hk => ?_⟩
    · have bad : ¬outsOk n 0 us → ∀ us', ¬RdO n z us' := fun hb us' q => by
        rcases q with q | ⟨_, e, q⟩
        · exact c0 q.1
        · rw [hus] at e
          cases e
          exact hb q
      walk_at "w"
      refine w_forM hr1 (fun i σ' H' => (∃ x, σ' = [some (.str z), some (.int n), some (.ref r), some (.int ((us.take i).getLastD 0)), x]) ∧ H' = H1 ∧ outsOk n 0 (us.take i)) ⟨⟨_, rfl⟩, rfl, trivial⟩ (fun i σ' H' _ q => by rw [q.2.1]; exact hr1) ?_ ?_
      · rintro i u σ' H' hu ⟨⟨x, rfl⟩, rfl, hj⟩
        have et := take_snoc hu
        have elast : (us.take (i + 1)).getLastD 0 = u := by rw [et]; simp
        have no : ¬((us.take i).getLastD 0 < u ∧ u ≤ n) → Q .non H' := fun hb => k2 (bad fun q => hb (by
          rw [← List.take_append_drop (i + 1) us] at q
          have q2 := outsOk_app q
          rw [et, outsOk_snoc] at q2
          exact q2.2)) _ hk
        walk_at "w"
        refine w_ite (fun c1 => ?_) (fun c1 => ?_)
        · walk_at "w"
          refine w_iteN (fun c2 => ?_) (fun c2 => ?_)
          · walk_at "w"
            exact no fun q => c2 q.2
          · walk_at "w"
            rw [elast]
            refine ⟨⟨_, rfl⟩, rfl, ?_⟩
            rw [et, outsOk_snoc]
            exact ⟨hj, c1, c2⟩
        · walk_at "w"
          exact no fun q => c1 q.1
      · rintro σ' H' ⟨⟨x, rfl⟩, rfl, hj⟩
        rw [List.take_length] at hj
        walk_at "w"
        exact k1 us (.inr ⟨c0, hus, hj⟩) r H' hr hk hr1
    · walk_at "w"
      exact k2 (fun us q => by
        rcases q with q | ⟨_, e, q⟩
        · exact c0 q.1
        · exact hno us e) H1 hk

def flagsOf (n : Int) (os : List Int) : List Bool := os.foldl (fun F v => F.set v.toNat true) (List.replicate (n + 2).toNat false)
theorem flagsOf_len (n : Int) (os : List Int) : (flagsOf n os).length = (n + 2).toNat := by
  unfold flagsOf
  suffices h : ∀ (l : List Int) (fs : List Bool), (l.foldl (fun F v => F.set v.toNat true) fs).length = fs.length by
    rw [h]; simp
  intro l
  induction l with
  | nil => intro fs; rfl
  | cons o l ih => intro fs; rw [List.foldl_cons, ih]; simp
theorem flagsOf_snoc (n : Int) (l : List Int) (o : Int) : flagsOf n (l ++ [o]) = (flagsOf n l).set o.toNat true := by
  unfold flagsOf
  rw [List.foldl_append]; rfl
theorem outsOk_mem {n : Int} : ∀ {us : List Int} {last : Int}, outsOk n last us → ∀ u ∈ us, last < u ∧ u ≤ n
  | [], _, _ => fun u hu => by cases hu
  | v :: us, last, h => fun u hu => by
    rcases List.mem_cons.mp hu with z | z
    · subst z; exact ⟨h.1, h.2.1⟩
    · have := outsOk_mem h.2.2 u z
      have := h.1
      omega
def readSp (a : AD) (ps : List Str) (H : Hp) (Q : VK) (E : XK) : Prop :=
  (∀ us ls os, RdR (ps.getD 0 default) us → 1 < ps.length → RdL ((us.length : Int) - 1) (ps.getD 1 default) ls → 2 < ps.length → RdO ((us.length : Int) - 1) (ps.getD 2 default) os → ps.length ≤ 3 →
    newSp a ((us.length : Int) - 1) (-1 :: ls) (us ++ [(us.length : Int) - 1 + 2]) (flagsOf ((us.length : Int) - 1) os) H Q) ∧
  ((∀ us, ¬RdR (ps.getD 0 default) us) → xBadDump a (.int 0) E H) ∧
  (∀ us, RdR (ps.getD 0 default) us → (1 < ps.length → ∀ ls, ¬RdL ((us.length : Int) - 1) (ps.getD 1 default) ls) → xBadDump a (.int 1) E H) ∧
  (∀ us ls, RdR (ps.getD 0 default) us → 1 < ps.length → RdL ((us.length : Int) - 1) (ps.getD 1 default) ls → (2 < ps.length → ∀ os, ¬RdO ((us.length : Int) - 1) (ps.getD 2 default) os) → xBadDump a (.int 2) E H) ∧
  (∀ us ls os, RdR (ps.getD 0 default) us → 1 < ps.length → RdL ((us.length : Int) - 1) (ps.getD 1 default) ls → 2 < ps.length → RdO ((us.length : Int) - 1) (ps.getD 2 default) os → 3 < ps.length → xBadDump a (.int 3) E H)
theorem RdR.len {z : Str} {us : List Int} (h : RdR z us) : 1 ≤ us.length ∧ us.length ≤ 61 := ⟨(numsOf_len h.1).1, h.2.1⟩
theorem RdO.ok {n : Int} {z : Str} {us : List Int} (h : RdO n z us) : outsOk n 0 us := by
  rcases h with h | h
  · rw [h.2]; trivial
  · exact h.2.2
def sp_Links_read (a : AD) : Sp := fun vs H Q E => ∃ z : Str, vs = [.str z] ∧ z.length ≤ 900000 ∧ readSp a (Txt.split z " | ") H Q E
theorem sc_Links_read : FnScope ["text", "parts", "rights", "size", "lefts", "outs", "flags", "node"] ["text"] (defScope s_Links_read) := ⟨rfl, rfl, rfl, by decide +kernel, rfl, by decide +kernel, by decide +kernel⟩
theorem ok_Links_read {P : Program} {w : World} {K : PySem.W.Frag} {mg : Str → Option Value} {base : Heap} {a : AD} (T : Txt P K mg a) (G__read_rights : FnA P w K mg base 4 a.f__read_rights ["part"] (sp__read_rights a)) (G__read_lefts : FnA P w K mg base 4 a.f__read_lefts ["part", "size"] (sp__read_lefts a)) (G__read_outs : FnA P w K mg base 4 a.f__read_outs ["part", "size"] (sp__read_outs a)) (G_Links_built : FnA P w K mg base 5 a.f_Links_built ["size", "lefts", "rights", "flags"] (sp_Links_built a)) : FnA P w K mg base 6 a.f_Links_read ["text"] (sp_Links_read a) := by
  obtain ⟨fd, F, b⟩ := T.F_Links_read
  refine FnA.of F sc_Links_read b (fun vs H Q E h => by first | (obtain ⟨rfl, _⟩ := h; rfl) | (obtain ⟨_, rfl, _⟩ := h; rfl) | (obtain ⟨_, _, rfl, _⟩ := h; rfl) | (obtain ⟨_, _, _, rfl, _⟩ := h; rfl) | (obtain ⟨_, _, _, _, rfl, _⟩ := h; rfl) | (obtain ⟨_, _, _, _, _, rfl, _⟩ := h; rfl) | (obtain ⟨_, _, _, _, _, _, rfl, _⟩ := h; rfl) | (obtain ⟨_, _, _, _, _, _, _, rfl, _⟩ := h; rfl) | (obtain ⟨_, _, _, _, _, _, _, _, rfl, _⟩ := h; rfl) | (obtain ⟨_, _, _, _, _, _, _, _, _, rfl, _⟩ := h; rfl) | (obtain ⟨_, _, _, _, _, _, _, _, _, _, rfl, _⟩ := h; rfl) | (obtain ⟨_, _, _, _, _, _, _, _, _, _, _, rfl, _⟩ := h; rfl) | (obtain ⟨_, _, _, _, _, _, _, _, _, _, _, _, rfl, _⟩ := h; rfl) | (obtain ⟨_, _, _, _, _, _, _, _, _, _, _, _, _, rfl, _⟩ := h; rfl) | (obtain ⟨_, _, _, _, _, _, _, _, _, _, _, _, _, _, rfl, _⟩ := h; rfl) | (obtain ⟨_, _, _, _, _, _, _, _, _, _, _, _, _, _, _, rfl, _⟩ := h; rfl) | (obtain ⟨_, _, _, _, _, _, _, _, _, _, _, _, _, _, _, _, rfl, _⟩ := h; rfl) | (obtain ⟨_, _, _, _, _, _, _, _, _, _, _, _, _, _, _, _, _, rfl, _⟩ := h; rfl) | (obtain ⟨_, _, _, _, _, _, _, _, _, _, _, _, _, _, _, _, _, _, rfl, _⟩ := h; rfl) | (obtain ⟨_, _, _, _, _, _, _, _, _, _, _, _, _, _, _, _, _, _, _, rfl, _⟩ := h; rfl) | (obtain ⟨_, _, _, _, _, _, _, _, _, _, _, _, _, _, _, _, _, _, _, _, rfl, _⟩ := h; rfl) | (obtain ⟨_, _, _, _, _, _, _, _, _, _, _, _, _, _, _, _, _, _, _, _, _, rfl, _⟩ := h; rfl) | (obtain ⟨_, _, _, _, _, _, _, _, _, _, _, _, _, _, _, _, _, _, _, _, _, _, rfl, _⟩ := h; rfl) | (obtain ⟨_, _, _, _, _, _, _, _, _, _, _, _, _, _, _, _, _, _, _, _, _, _, _, rfl, _⟩ := h; rfl)) (fun cdv A outer s H vs Q E hr tk pz h => ?_)
  have hu := hr.units
  have hrH := L2H.roomH_of hr
  obtain ⟨z, rfl, hz, h⟩ := h
  refine ⟨_, (pss_cons (ps_set (i := 1) sc_Links_read.nd rfl (Or.inl rfl) (pe_bm PySem.F.plainAttrs_str PySem.F.slot_str_split PySem.F.type_str_split m_split (pv 0) (pa_cons pe_str pa_nil)))
      (pss_cons (ps_set (i := 2) sc_Links_read.nd rfl (Or.inl rfl) (pe_callA G__read_rights (Room.mono hr (by decide)) T.n__read_rights tk (pa_cons (pe_ix ix_seq (pv 1) pe_int (fun _ _ => rfl)) pa_nil)))
      (pss_cons (ps_if (pt_cmpA o_isN (pv 2) pe_non (nomark _)) (pss_one (L2N.ps_raise rfl tk (Lk.pmk_own T.x_BadDump (List.cons_ne_nil _ _) hr T.c_BadDump (by exact (pa_cons pe_int pa_nil)) rfl))) pss_nil)
      (pss_cons (ps_set (i := 3) sc_Links_read.nd rfl (Or.inl rfl) (pe_op op_sub (pe_callB (b_len) rfl T.b_len (by decide +kernel) (pa_cons (pv 2) pa_nil)) pe_int))
      (pss_cut (ps_set (i := 4) sc_Links_read.nd rfl (Or.inl rfl) (pe_ifExp (pt_cmpA op_gt (pe_callB (b_len) rfl T.b_len (by decide +kernel) (pa_cons (pv 1) pa_nil)) pe_int (nomark _)) (pe_callA G__read_lefts (Room.mono hr (by decide)) T.n__read_lefts tk (pa_cons (pe_ix ix_seq (pv 1) pe_int (fun _ _ => rfl)) (pa_cons (pv 3) pa_nil))) pe_non))
      (pss_cons (ps_if (pt_cmpA o_isN (pv 4) pe_non (nomark _)) (pss_one (L2N.ps_raise rfl tk (Lk.pmk_own T.x_BadDump (List.cons_ne_nil _ _) hr T.c_BadDump (by exact (pa_cons pe_int pa_nil)) rfl))) pss_nil)
      (pss_cut (ps_set (i := 5) sc_Links_read.nd rfl (Or.inl rfl) (pe_ifExp (pt_cmpA op_gt (pe_callB (b_len) rfl T.b_len (by decide +kernel) (pa_cons (pv 1) pa_nil)) pe_int (nomark _)) (pe_callA G__read_outs (Room.mono hr (by decide)) T.n__read_outs tk (pa_cons (pe_ix ix_seq (pv 1) pe_int (fun _ _ => rfl)) (pa_cons (pv 3) pa_nil))) pe_non))
      (pss_cons (ps_if (pt_cmpA o_isN (pv 5) pe_non (nomark _)) (pss_one (L2N.ps_raise rfl tk (Lk.pmk_own T.x_BadDump (List.cons_ne_nil _ _) hr T.c_BadDump (by exact (pa_cons pe_int pa_nil)) rfl))) pss_nil)
      (pss_cons (ps_if (pt_cmpA op_gt (pe_callB (b_len) rfl T.b_len (by decide +kernel) (pa_cons (pv 1) pa_nil)) (T.k_PARTS.elim fun t hm => pe_glob (v := .int 3) rfl hm ⟨t, rfl⟩) (nomark _)) (pss_one (L2N.ps_raise rfl tk (Lk.pmk_own T.x_BadDump (List.cons_ne_nil _ _) hr T.c_BadDump (by exact (pa_cons (T.k_PARTS.elim fun t hm => pe_glob (v := .int 3) rfl hm ⟨t, rfl⟩) pa_nil)) rfl))) pss_nil)
      (pss_cons (ps_set (i := 6) sc_Links_read.nd rfl (Or.inl rfl) (pe_op o_mul (pe_lst (pa_cons pe_bl pa_nil)) (pe_op o_add (pv 3) pe_int)))
      (pss_cons (ps_for pz rfl (pi_list (pv 5)) (pg_name (i := 7) sc_Links_read.nd rfl (Or.inl rfl))
      (pss_one (ps_asg pe_bl (pg_sub (pv 6) (pv 7) set_list))))
      (pss_one (ps_ret (T.st_Links_built.elim fun _ h => pe_static (pl := _) G_Links_built (Room.mono hr (by decide)) T.rd_Links h T.c_Links tk (pa_cons (pv 3) (pa_cons (pe_op o_add (pe_lst (pa_cons (pe_un un_neg pe_int) pa_nil)) (pv 4)) (pa_cons (pe_op o_add (pv 2) (pe_lst (pa_cons (pe_op o_add (pv 3) pe_int) pa_nil))) (pa_cons (pv 6) pa_nil)))))))))))))))))), ?_⟩
  show (_ : Ends → L2.St → Hp → Prop) _ [some _, none, none, none, none, none, none, none] _
  try dsimp only [L2H.cxH, cxOf]
  walk_at "w"
  have hps := split_len (z := z) (y := " | ") (by rw [tl_bar]; simp) k_bar
  have hpl := split_part_len (z := z) (y := " | ") (by rw [tl_bar]; simp) k_bar
  have hpn := split_ne (z := z) (y := " | ") (by rw [tl_bar]; simp) k_bar
  generalize Txt.split z " | " = ps at h hps hpl hpn
  obtain ⟨h0, e0, e1, e2, e3⟩ := h
  have hp0 : 0 < ps.length := List.length_pos_iff.mpr hpn
  have hpi : ∀ i, i < ps.length → (ps.getD i default).length ≤ 1000000 := fun i hi => by
    have := hpl (ps.getD i default) (List.mem_of_getElem? (getD_some hi))
    omega
  intro p hp
  have hp1 : upd H p (.lst (ps.map V.str)) p = some (.lst (ps.map V.str)) := upd_same
  have hk1 : Kp [] H (upd H p (.lst (ps.map V.str))) := Kp.refl.new hp
  generalize upd H p (.lst (ps.map V.str)) = H1 at hp1 hk1
  -- the errors, wherever they come
  have bad : ∀ (v : Int), xBadDump a (.int v) E H → ∀ H', Kp [] H H' → ∀ d, H' d = none → E (.ref a.BadDump) (some d) (upd H' d (.xd [("part", .int v)])) := fun v hx H' hk d hd => hx d _ (hk.free hd) upd_same (hk.new hd)
  walk_at "w"
  refine ⟨_, rfl, hpi 0 hp0, fun us hus r H2 hr hk2 hr2 => ?_, fun hno H2 hk2 => ?_⟩
  · have hul := hus.len
    have hk02 := hk1.trans hk2
    have hp2 : H2 p = some (.lst (ps.map V.str)) := hk2.at0 hp1
    walk_at "w"
    refine s_cut (fun σ' H' => Kp [] H2 H' ∧ ((∃ ls q, 1 < ps.length ∧ RdL ((us.length : Int) - 1) (ps.getD 1 default) ls ∧ H' q = some (.lst (ls.map V.int)) ∧ σ' = [some (.str z), some (.ref p), some (.ref r), some (.int ((us.length : Int) - 1)), some (.ref q), none, none, none]) ∨ ((1 < ps.length → ∀ ls, ¬RdL ((us.length : Int) - 1) (ps.getD 1 default) ls) ∧ σ' = [some (.str z), some (.ref p), some (.ref r), some (.int ((us.length : Int) - 1)), some .non, none, none, none]))) ?_ ?_
    · walk_at "w"
      refine w_ite (fun c => ?_) (fun c => ?_)
      · walk_at "w"
        refine ⟨_, _, rfl, hpi 1 (by omega), fun ls hls q H3 hq hk3 hq3 => ?_, fun hno H3 hk3 => ?_⟩
        · walk_at "w"
          exact ⟨hk3, .inl ⟨ls, q, by omega, hls, hq3, rfl⟩⟩
        · walk_at "w"
          exact ⟨hk3, .inr ⟨fun _ => hno, rfl⟩⟩
      · walk_at "w"
        exact ⟨Kp.refl, .inr ⟨fun z => absurd z (by omega), rfl⟩⟩
    · rintro σ' H3 ⟨hk3, hcase⟩
      have hk03 := hk02.trans hk3
      have hp3 : H3 p = some (.lst (ps.map V.str)) := hk3.at0 hp2
      rcases hcase with ⟨ls, q, hl1, hls, hq3, rfl⟩ | ⟨hno, rfl⟩
      · have hll : (ls.length : Int) = us.length := by have := hls.2.1; omega
        walk_at "w"
        refine s_cut (fun σ' H' => Kp [] H3 H' ∧ ((∃ os t, 2 < ps.length ∧ RdO ((us.length : Int) - 1) (ps.getD 2 default) os ∧ H' t = some (.lst (os.map V.int)) ∧ σ' = [some (.str z), some (.ref p), some (.ref r), some (.int ((us.length : Int) - 1)), some (.ref q), some (.ref t), none, none]) ∨ ((2 < ps.length → ∀ os, ¬RdO ((us.length : Int) - 1) (ps.getD 2 default) os) ∧ σ' = [some (.str z), some (.ref p), some (.ref r), some (.int ((us.length : Int) - 1)), some (.ref q), some .non, none, none]))) ?_ ?_
        · walk_at "w"
          refine w_ite (fun c => ?_) (fun c => ?_)
          · walk_at "w"
            refine ⟨_, _, rfl, hpi 2 (by omega), fun os hos t H4 ht hk4 ht4 => ?_, fun hno H4 hk4 => ?_⟩
            · walk_at "w"
              exact ⟨hk4, .inl ⟨os, t, by omega, hos, ht4, rfl⟩⟩
            · walk_at "w"
              exact ⟨hk4, .inr ⟨fun _ => hno, rfl⟩⟩
          · walk_at "w"
            exact ⟨Kp.refl, .inr ⟨fun z => absurd z (by omega), rfl⟩⟩
        · rintro σ' H4 ⟨hk4, hcase⟩
          have hk04 := hk03.trans hk4
          have hp4 : H4 p = some (.lst (ps.map V.str)) := hk4.at0 hp3
          rcases hcase with ⟨os, t, hl2, hos, ht4, rfl⟩ | ⟨hno, rfl⟩
          · have hom := outsOk_mem hos.ok
            walk_at "w"
            refine w_ite (fun c => ?_) (fun c => ?_)
            · walk_at "w"
              exact ⟨rfl, fun d hd => bad 3 (e3 us ls os hus hl1 hls hl2 hos (by omega)) H4 hk04 d hd⟩
            · have hgo := h0 us ls os hus hl1 hls hl2 hos (by omega)
              have hq4 : H4 q = some (.lst (ls.map V.int)) := hk4.at0 hq3
              have hr4 : H4 r = some (.lst (us.map V.int)) := hk4.at0 (hk3.at0 hr2)
              walk_at "w"
              intro g0 hg0
              walk_at "w"
              intro g hg
              have g00 : H g = none := hk04.free (upd_nil hg)
              have g01 : H g0 = none := hk04.free hg0
              have hk5 : Kp [] H (upd (upd H4 g0 (.lst [.bl false])) g (.lst ((List.replicate ((us.length : Int) - 1 + 2).toNat false).map V.bl))) := (hk04.own g01).own g00
              have t1 : t ≠ g := ne_of_none (by walk_at "hp") hg
              have q1 : q ≠ g := ne_of_none (by walk_at "hp") hg
              have r1 : r ≠ g := ne_of_none (by walk_at "hp") hg
              have k45 : ∀ b o, H4 b = some o → b ≠ g → upd (upd H4 g0 (.lst [.bl false])) g (.lst ((List.replicate ((us.length : Int) - 1 + 2).toNat false).map V.bl)) b = some o := fun b o e n => upd_get n (upd_new hg0 e)
              walk_at "w"
              refine w_forM (us := os) (f := V.int) (p := t) (by walk_at "hp") (fun i σ' H' => (∃ x, σ' = [some (.str z), some (.ref p), some (.ref r), some (.int ((us.length : Int) - 1)), some (.ref q), some (.ref t), some (.ref g), x]) ∧ Kp [] H H' ∧ H' g = some (.lst ((flagsOf ((us.length : Int) - 1) (os.take i)).map V.bl)) ∧ H' t = some (.lst (os.map V.int)) ∧ H' q = some (.lst (ls.map V.int)) ∧ H' r = some (.lst (us.map V.int))) ⟨⟨_, rfl⟩, hk5, upd_same, k45 t _ ht4 t1, k45 q _ hq4 q1, k45 r _ hr4 r1⟩ (fun i σ' H' _ q => q.2.2.2.1) ?_ ?_
              · rintro i u σ' H' hu ⟨⟨x, rfl⟩, hk, hF, hT, hQ, hR⟩
                have hub := hom u (List.mem_of_getElem? hu)
                have hfl := flagsOf_len ((us.length : Int) - 1) (os.take i)
                walk_at "w"
                rw [take_snoc hu, flagsOf_snoc]
                exact ⟨⟨_, rfl⟩, hk.own g00, upd_same, upd_get t1 hT, upd_get q1 hQ, upd_get r1 hR⟩
              · rintro σ' H' ⟨⟨x, rfl⟩, hk, hF, hT, hQ, hR⟩
                rw [List.take_length] at hF
                walk_at "w"
                intro m hm
                walk_at "w"
                intro m2 hm2
                walk_at "w"
                intro m3 hm3
                walk_at "w"
                intro m4 hm4
                walk_at "w"
                refine ⟨_, m2, m4, g, -1 :: ls, us ++ [(us.length : Int) - 1 + 2], flagsOf ((us.length : Int) - 1) os, rfl, by omega, by omega, by walk_at "hp", by walk_at "hp", by walk_at "hp", ?_⟩
                intro x' l' r' f' H9 hx9 hl9 hr9 hf9 hL hk9
                have kk : Kp [] H (upd (upd (upd (upd H' m (.lst [.int (-1)])) m2 (.lst ((-1 :: ls).map V.int))) m3 (.lst [.int ((us.length : Int) - 1 + 2)])) m4 (.lst ((us ++ [(us.length : Int) - 1 + 2]).map V.int))) := (((hk.new hm).new hm2).new hm3).new hm4
                exact hgo x' l' r' f' H9 (kk.free hx9) (kk.free hl9) (kk.free hr9) (kk.free hf9) hL (kk.trans hk9)
          · walk_at "w"
            exact ⟨rfl, fun d hd => bad 2 (e2 us ls hus hl1 hls hno) H4 hk04 d hd⟩
      · walk_at "w"
        exact ⟨rfl, fun d hd => bad 1 (e1 us hus hno) H3 hk03 d hd⟩
  · walk_at "w"
    exact ⟨rfl, fun d hd => bad 0 (e0 hno) H2 (hk1.trans hk2) d hd⟩

/-! ### the text of a standing -/
def outL (n : Int) (F : List Bool) : List Int := (List.range n.toNat).filterMap fun i : Nat => if F.getD (i + 1) default = true then some (1 + (i : Int)) else none
def goneT (n : Int) (F : List Bool) : Str := if outL n F = [] then "none" else Txt.join " " ((outL n F).map strI)
def textOf (n : Int) (R L : List Int) (F : List Bool) : Str := Txt.join " " (R.map strI) ++ " | " ++ Txt.join " " ((L.drop 1).map strI) ++ " | " ++ goneT n F
/-- a standing as the law draws it -/
structure WF (n : Int) (R L : List Int) (F : List Bool) : Prop where
  n0 : 0 ≤ n
  n1 : n ≤ 60
  hR : R.length = (n + 1).toNat
  hL : L.length = (n + 2).toNat
  hF : F.length = (n + 2).toNat
  r : ∀ (i : Nat) (u : Int), R[i]? = some u → (i : Int) < u ∧ u ≤ n + 1
  l0 : L[0]? = some (-1)
  l : ∀ (i : Nat) (u : Int), 1 ≤ i → L[i]? = some u → 0 ≤ u ∧ u < (i : Int)
  f0 : F.getD 0 default = false
  f1 : F.getD (n + 1).toNat default = false
theorem outL_mem {n : Int} {F : List Bool} {u : Int} (h : u ∈ outL n F) : 1 ≤ u ∧ u ≤ n ∧ F.getD u.toNat default = true := by
  unfold outL at h
  rw [List.mem_filterMap] at h
  obtain ⟨i, hi, e⟩ := h
  rw [List.mem_range] at hi
  split at e
  · rename_i q
    cases e
    refine ⟨by omega, by omega, ?_⟩
    rw [show (1 + (i : Int)).toNat = i + 1 by omega]
    exact q
  · cases e
theorem outL_len (n : Int) (F : List Bool) : (outL n F).length ≤ n.toNat := by
  have := fm_len (fun i : Nat => if F.getD (i + 1) default = true then some (1 + (i : Int)) else none) (List.range n.toNat)
  rw [List.length_range] at this
  exact this
/-- the outs from 1 to k -/
def outK (F : List Bool) (k : Nat) : List Int := (List.range k).filterMap fun i : Nat => if F.getD (i + 1) default = true then some (1 + (i : Int)) else none
theorem outK_succ (F : List Bool) (k : Nat) : outK F (k + 1) = outK F k ++ (if F.getD (k + 1) default = true then [1 + (k : Int)] else []) := by
  unfold outK
  rw [List.range_succ, List.filterMap_append]
  congr 1
  rw [List.filterMap_cons, List.filterMap_nil]
  by_cases z : F.getD (k + 1) default = true
  · rw [if_pos z, if_pos z]
  · rw [if_neg z, if_neg z]
theorem outK_last (F : List Bool) : ∀ k : Nat, (outK F k).getLastD 0 ≤ (k : Int) ∧ 0 ≤ (outK F k).getLastD 0
  | 0 => by simp [outK]
  | k + 1 => by
    have := outK_last F k
    rw [outK_succ]
    split
    · simp; omega
    · rw [List.append_nil]; omega
theorem outK_ok {n : Int} (F : List Bool) : ∀ k : Nat, (k : Int) ≤ n → outsOk n 0 (outK F k)
  | 0, _ => trivial
  | k + 1, h => by
    have ih := outK_ok (n := n) F k (by omega)
    rw [outK_succ]
    split
    · rw [outsOk_snoc]
      have := outK_last F k
      exact ⟨ih, by omega, by omega⟩
    · rw [List.append_nil]; exact ih
theorem outL_ok {n : Int} (n0 : 0 ≤ n) (F : List Bool) : outsOk n 0 (outL n F) := outK_ok F n.toNat (by omega)
theorem getD_set_eq {α : Type} [Inhabited α] {us : List α} {i : Nat} {u : α} (h : i < us.length) : (us.set i u).getD i default = u := by
  simp [List.getD, h]
theorem getD_set_ne {α : Type} [Inhabited α] {us : List α} {i j : Nat} {u : α} (h : i ≠ j) : (us.set i u).getD j default = us.getD j default := by
  simp [List.getD, List.getElem?_set_ne h]
theorem flagsOf_outK {n : Int} (n0 : 0 ≤ n) (F : List Bool) : ∀ k : Nat, (k : Int) ≤ n → ∀ j : Nat, j < (n + 2).toNat → (flagsOf n (outK F k)).getD j default = if 1 ≤ j ∧ j ≤ k then F.getD j default else false
  | 0, _, j, hj => by
    rw [if_neg (by omega)]
    show (List.replicate (n + 2).toNat false).getD j default = false
    simp [List.getD, List.getElem?_replicate]
    split <;> rfl
  | k + 1, h, j, hj => by
    have ih := flagsOf_outK n0 F k (by omega) j hj
    have hl := flagsOf_len n (outK F k)
    rw [outK_succ]
    by_cases z : F.getD (k + 1) default = true
    · rw [if_pos z, flagsOf_snoc, show (1 + (k : Int)).toNat = k + 1 by omega]
      by_cases q : j = k + 1
      · subst q
        rw [if_pos ⟨by omega, Nat.le_refl _⟩, z]
        exact getD_set_eq (by rw [hl]; omega)
      · have e : ((flagsOf n (outK F k)).set (k + 1) true).getD j default = (flagsOf n (outK F k)).getD j default := by
          exact getD_set_ne (fun y => q y.symm)
        rw [e, ih]
        by_cases q2 : 1 ≤ j ∧ j ≤ k
        · rw [if_pos q2, if_pos ⟨q2.1, by omega⟩]
        · rw [if_neg q2, if_neg (fun y => q2 ⟨y.1, by omega⟩)]
    · rw [if_neg z, List.append_nil, ih]
      by_cases q : j = k + 1
      · subst q
        rw [if_neg (by omega), if_pos ⟨by omega, Nat.le_refl _⟩]
        cases y : F.getD (k + 1) default with
        | true => exact absurd y z
        | false => rfl
      · by_cases q2 : 1 ≤ j ∧ j ≤ k
        · rw [if_pos q2, if_pos ⟨q2.1, by omega⟩]
        · rw [if_neg q2, if_neg (fun y => q2 ⟨y.1, by omega⟩)]
theorem getD_ext {α : Type} [Inhabited α] {us vs : List α} (hl : us.length = vs.length) (h : ∀ j, j < us.length → us.getD j default = vs.getD j default) : us = vs := by
  apply List.ext_getElem hl
  intro i h1 h2
  have := h i h1
  simpa [List.getD, List.getElem?_eq_getElem h1, List.getElem?_eq_getElem h2] using this
theorem flags_back {n : Int} {R L : List Int} {F : List Bool} (w : WF n R L F) : flagsOf n (outL n F) = F := by
  have hl := flagsOf_len n (outL n F)
  refine getD_ext (by rw [hl, w.hF]) fun j hj => ?_
  rw [hl] at hj
  have e := flagsOf_outK w.n0 F n.toNat (by have := w.n0; omega) j hj
  have e2 : outK F n.toNat = outL n F := rfl
  rw [e2] at e
  rw [e]
  by_cases q : 1 ≤ j ∧ j ≤ n.toNat
  · rw [if_pos q]
  · rw [if_neg q]
    by_cases z : j = 0
    · subst z; exact w.f0.symm
    · have : j = (n + 1).toNat := by have := w.n0; omega
      rw [this]; exact w.f1.symm
theorem none_free : 124 ∉ TL.tl ("none" : Str) := by decide +kernel
theorem none_ne {us : List Int} (hne : us ≠ []) (h : ∀ u ∈ us, 0 ≤ u) : Txt.join " " (us.map strI) ≠ ("none" : Str) := by
  intro e
  cases us with
  | nil => exact hne rfl
  | cons u us =>
    have e2 := congrArg TL.tl e
    have e3 : TL.tl ("none" : Str) = [110, 111, 110, 101] := by decide +kernel
    rw [TL.join_eq, TL.tl_join, e3] at e2
    have h0 := tl_strI (h u List.mem_cons_self)
    have hne := TL.numL_ne u.toNat
    have hd := TL.numL_digits u.toNat
    cases q : TL.numL u.toNat with
    | nil => exact hne q
    | cons c r =>
      have hc : 48 ≤ c ∧ c ≤ 57 := hd c (by rw [q]; exact List.mem_cons_self)
      cases us with
      | nil =>
        have e4 : TL.tl (strI u) = [110, 111, 110, 101] := e2
        rw [h0, q] at e4
        injection e4 with e5
        omega
      | cons v vs =>
        have e4 : TL.tl (strI u) ++ (TL.tl " " ++ TL.joinL (TL.tl " ") ((v :: vs).map fun x => TL.tl (strI x))) = [110, 111, 110, 101] := by
          rw [← e2]
          simp only [List.map_cons, List.map_map]
          rfl
        rw [h0, q, List.cons_append] at e4
        injection e4 with e5
        omega
theorem WF.rs {n : Int} {R L : List Int} {F : List Bool} (w : WF n R L F) : ∀ u ∈ R, 0 ≤ u ∧ u < 1000000000 := by
  intro u hu
  obtain ⟨i, hi, rfl⟩ := List.getElem_of_mem hu
  have := w.r i _ (List.getElem?_eq_getElem hi)
  have := w.n1
  omega
theorem WF.ls {n : Int} {R L : List Int} {F : List Bool} (w : WF n R L F) : ∀ u ∈ L.drop 1, 0 ≤ u ∧ u < 1000000000 := by
  intro u hu
  obtain ⟨i, hi, rfl⟩ := List.getElem_of_mem hu
  have e : (L.drop 1)[i]? = L[1 + i]? := List.getElem?_drop ..
  rw [List.getElem?_eq_getElem hi] at e
  have h1 := w.l (1 + i) _ (by omega) e.symm
  have hl := w.hL
  have := w.n1
  rw [List.length_drop] at hi
  omega
theorem WF.os {n : Int} {R L : List Int} {F : List Bool} (w : WF n R L F) : ∀ u ∈ outL n F, 0 ≤ u ∧ u < 1000000000 := by
  intro u hu
  have := outL_mem hu
  have := w.n1
  omega
/-- the read-back -/
theorem text_parts {n : Int} {R L : List Int} {F : List Bool} (w : WF n R L F) : Txt.split (textOf n R L F) " | " = [Txt.join " " (R.map strI), Txt.join " " ((L.drop 1).map strI), goneT n F] := by
  unfold textOf
  refine split_three (no_bar fun u hu => (w.rs u hu).1) (no_bar fun u hu => (w.ls u hu).1) ?_
  unfold goneT
  split
  · exact none_free
  · exact no_bar fun u hu => (w.os u hu).1
theorem WF.rne {n : Int} {R L : List Int} {F : List Bool} (w : WF n R L F) : R ≠ [] := by
  intro e
  have h := w.hR
  have := w.n0
  rw [e] at h
  simp at h
  omega
theorem WF.lne {n : Int} {R L : List Int} {F : List Bool} (w : WF n R L F) : L.drop 1 ≠ [] := by
  intro e
  have h := congrArg List.length e
  rw [List.length_drop, w.hL] at h
  have := w.n0
  simp at h
  omega
theorem text_r {n : Int} {R L : List Int} {F : List Bool} (w : WF n R L F) : RdR (Txt.join " " (R.map strI)) R := by
  refine ⟨numsOf_join w.rne w.rs, ?_, fun i u hu => ?_⟩
  · have := w.hR; have := w.n1; omega
  · have := w.r i u hu
    have := w.hR
    have := w.n0
    omega
theorem text_l {n : Int} {R L : List Int} {F : List Bool} (w : WF n R L F) : RdL n (Txt.join " " ((L.drop 1).map strI)) (L.drop 1) := by
  refine ⟨numsOf_join w.lne w.ls, ?_, fun i u hu => ?_⟩
  · rw [List.length_drop, w.hL]; have := w.n0; omega
  · rw [List.getElem?_drop] at hu
    have := w.l (1 + i) u (by omega) hu
    omega
theorem text_o {n : Int} {R L : List Int} {F : List Bool} (w : WF n R L F) : RdO n (goneT n F) (outL n F) := by
  unfold goneT
  split
  · rename_i h
    exact .inl ⟨rfl, h⟩
  · rename_i h
    exact .inr ⟨none_ne h (fun u hu => (w.os u hu).1), numsOf_join h w.os, outL_ok w.n0 F⟩
theorem WF.lcons {n : Int} {R L : List Int} {F : List Bool} (w : WF n R L F) : -1 :: L.drop 1 = L := by
  cases e : L with
  | nil => have := w.l0; rw [e] at this; cases this
  | cons c t =>
    have := w.l0
    rw [e] at this
    cases this
    rfl
theorem text_len {n : Int} {R L : List Int} {F : List Bool} (w : WF n R L F) : (textOf n R L F).length ≤ 10000 ∧ (Txt.join " " (R.map strI)).length ≤ 610 ∧ (Txt.join " " ((L.drop 1).map strI)).length ≤ 610 ∧ (goneT n F).length ≤ 610 := by
  have h1 := (nums_len w.rs).1
  have h2 := (nums_len w.ls).1
  have h3 := (nums_len w.os).1
  have h4 := outL_len n F
  have := w.hR
  have := w.hL
  have := w.n1
  have hg : (goneT n F).length ≤ 610 := by
    unfold goneT
    split
    · show ("none" : Str).length ≤ 610
      have : ("none" : Str).length = 4 := by decide +kernel
      omega
    · omega
  rw [List.length_drop] at h2
  have hb : (" | " : Str).length = 3 := by decide +kernel
  refine ⟨?_, by omega, by omega, hg⟩
  unfold textOf
  rw [len_app, len_app, len_app, len_app, hb]
  omega
/-- what Links.read makes of the text -/
theorem read_text {a : AD} {n : Int} {R L : List Int} {F : List Bool} {H : Hp} {Q : VK} {E : XK} (w : WF n R L F) (k : newSp a n L (R ++ [n + 2]) F H Q) : readSp a (Txt.split (textOf n R L F) " | ") H Q E := by
  rw [text_parts w]
  have hr := text_r w
  have hl := text_l w
  have ho := text_o w
  have hn : (R.length : Int) - 1 = n := by have := w.hR; have := w.n0; omega
  have ur : ∀ us, RdR (Txt.join " " (R.map strI)) us → us = R := fun us h => by
    have := h.1
    rw [hr.1] at this
    exact (Option.some.inj this).symm
  have ul : ∀ us, RdL n (Txt.join " " ((L.drop 1).map strI)) us → us = L.drop 1 := fun us h => by
    have := h.1
    rw [hl.1] at this
    exact (Option.some.inj this).symm
  have uo : ∀ us, RdO n (goneT n F) us → us = outL n F := fun us h => by
    rcases h with ⟨e1, e2⟩ | ⟨e1, e2, _⟩ <;> rcases ho with ⟨d1, d2⟩ | ⟨d1, d2, _⟩
    · rw [e2, d2]
    · exact absurd e1 d1
    · exact absurd d1 e1
    · rw [d2] at e2
      exact (Option.some.inj e2).symm
  refine ⟨fun us ls os h1 _ h2 _ h3 _ => ?_, fun h => absurd hr (h R), fun us h1 h => ?_, fun us ls h1 _ h2 h => ?_, fun us ls os _ _ _ _ _ h => ?_⟩
  · have e1 := ur us h1
    subst e1
    rw [hn] at h2 h3 ⊢
    have e2 := ul ls h2
    have e3 := uo os h3
    subst e2 e3
    rw [w.lcons, flags_back w]
    exact k
  · have e1 := ur us h1
    subst e1
    rw [hn] at h
    exact absurd hl (h (by simp) _)
  · have e1 := ur us h1
    subst e1
    rw [hn] at h
    exact absurd ho (h (by simp) _)
  · simp at h

theorem fm_congr {α β : Type} {f g : α → Option β} : ∀ {l : List α}, (∀ x ∈ l, f x = g x) → l.filterMap f = l.filterMap g
  | [], _ => rfl
  | x :: l, h => by
    rw [List.filterMap_cons, List.filterMap_cons, h x List.mem_cons_self, fm_congr (fun y hy => h y (List.mem_cons_of_mem _ hy))]
/-! ### the dump -/
theorem cut_last {α : Type} {xs : List α} {x : α} : cut (xs ++ [x]) none (some (-1)) = xs := by
  unfold cut
  simp [HT.sIx]
  rw [show (-1 + ((xs.length : Int) + 1)).toNat = xs.length by omega, List.take_left]
theorem cut_tail {α : Type} {xs : List α} : cut xs (some 1) none = xs.drop 1 := by
  unfold cut
  simp only [HT.sIx]
  rw [if_neg (by decide)]
  cases xs with
  | nil => simp
  | cons x xs =>
    rw [show min (1 : Int).toNat (x :: xs).length = 1 by simp]
    simp
/-- the three parts -/
def sp_Links__dump_parts (a : AD) : Sp := fun vs H Q E => ∃ (x l r f : Addr) (n : Int) (L R : List Int) (F : List Bool), vs = [.ref x] ∧ Lnk a H x l r f n L (R ++ [n + 2]) F ∧ WF n R L F ∧ ∀ p H', H p = none → Kp [] H H' → H' p = some (.lst ([Txt.join " " (R.map strI), Txt.join " " ((L.drop 1).map strI), goneT n F].map V.str)) → Q (.ref p) H'
theorem sc_Links__dump_parts : FnScope ["self", "link", "rights", "lefts", "node", "outs"] ["self"] (defScope s_Links__dump_parts) := ⟨rfl, rfl, rfl, by decide +kernel, rfl, by decide +kernel, by decide +kernel⟩
theorem ok_Links__dump_parts {P : Program} {w : World} {K : PySem.W.Frag} {mg : Str → Option Value} {base : Heap} {a : AD} (T : Txt P K mg a) : FnA P w K mg base 2 a.f_Links__dump_parts ["self"] (sp_Links__dump_parts a) := by
  obtain ⟨fd, F, b⟩ := T.F_Links__dump_parts
  refine FnA.of F sc_Links__dump_parts b (fun vs H Q E h => by first | (obtain ⟨rfl, _⟩ := h; rfl) | (obtain ⟨_, rfl, _⟩ := h; rfl) | (obtain ⟨_, _, rfl, _⟩ := h; rfl) | (obtain ⟨_, _, _, rfl, _⟩ := h; rfl) | (obtain ⟨_, _, _, _, rfl, _⟩ := h; rfl) | (obtain ⟨_, _, _, _, _, rfl, _⟩ := h; rfl) | (obtain ⟨_, _, _, _, _, _, rfl, _⟩ := h; rfl) | (obtain ⟨_, _, _, _, _, _, _, rfl, _⟩ := h; rfl) | (obtain ⟨_, _, _, _, _, _, _, _, rfl, _⟩ := h; rfl) | (obtain ⟨_, _, _, _, _, _, _, _, _, rfl, _⟩ := h; rfl) | (obtain ⟨_, _, _, _, _, _, _, _, _, _, rfl, _⟩ := h; rfl) | (obtain ⟨_, _, _, _, _, _, _, _, _, _, _, rfl, _⟩ := h; rfl) | (obtain ⟨_, _, _, _, _, _, _, _, _, _, _, _, rfl, _⟩ := h; rfl) | (obtain ⟨_, _, _, _, _, _, _, _, _, _, _, _, _, rfl, _⟩ := h; rfl) | (obtain ⟨_, _, _, _, _, _, _, _, _, _, _, _, _, _, rfl, _⟩ := h; rfl) | (obtain ⟨_, _, _, _, _, _, _, _, _, _, _, _, _, _, _, rfl, _⟩ := h; rfl) | (obtain ⟨_, _, _, _, _, _, _, _, _, _, _, _, _, _, _, _, rfl, _⟩ := h; rfl) | (obtain ⟨_, _, _, _, _, _, _, _, _, _, _, _, _, _, _, _, _, rfl, _⟩ := h; rfl) | (obtain ⟨_, _, _, _, _, _, _, _, _, _, _, _, _, _, _, _, _, _, rfl, _⟩ := h; rfl) | (obtain ⟨_, _, _, _, _, _, _, _, _, _, _, _, _, _, _, _, _, _, _, rfl, _⟩ := h; rfl) | (obtain ⟨_, _, _, _, _, _, _, _, _, _, _, _, _, _, _, _, _, _, _, _, rfl, _⟩ := h; rfl) | (obtain ⟨_, _, _, _, _, _, _, _, _, _, _, _, _, _, _, _, _, _, _, _, _, rfl, _⟩ := h; rfl) | (obtain ⟨_, _, _, _, _, _, _, _, _, _, _, _, _, _, _, _, _, _, _, _, _, _, rfl, _⟩ := h; rfl) | (obtain ⟨_, _, _, _, _, _, _, _, _, _, _, _, _, _, _, _, _, _, _, _, _, _, _, rfl, _⟩ := h; rfl)) (fun cdv A outer s H vs Q E hr tk pz h => ?_)
  have hu := hr.units
  have hrH := L2H.roomH_of hr
  obtain ⟨x, l, r, f, n, L, R, F, rfl, hL, w, k⟩ := h
  obtain ⟨⟨dx, hx⟩, hl, hr', hf, _⟩ := id hL
  have n0 := w.n0
  have n1 := w.n1
  have w1 := w.hR
  have w2 := w.hL
  have w3 := w.hF
  refine ⟨_, (pss_cons (ps_setLc (i := 2) (own := [("link", 1)]) (g := (gName 1)) (tt := tYes) rfl sc_Links__dump_parts.nd rfl rfl (sw_true rfl rfl rfl (by decide +kernel)) (pi_list (pe_slice sl_any (pe_fld (pv 0) rfl) po_none (po_some (pe_un un_neg pe_int)))) (blkOk_by (own := [("link", 1)]) (N := ["self", "link", "rights", "lefts", "node", "outs"]) (sc := defScope s_Links__dump_parts) (by decide +kernel)) (fun _ _ _ _ _ => (pg_name (i := 1) sc_Links__dump_parts.nd rfl (Or.inl rfl))) (fun _ _ _ _ _ => pts_nil) (fun _ _ _ _ _ => (pe_callTy b_str rfl T.b_str (by decide +kernel) (pa_cons (pv 1) pa_nil))))
      (pss_cons (ps_setLc (i := 3) (own := [("link", 1)]) (g := (gName 1)) (tt := tYes) rfl sc_Links__dump_parts.nd rfl rfl (sw_true rfl rfl rfl (by decide +kernel)) (pi_list (pe_slice sl_any (pe_fld (pv 0) rfl) (po_some pe_int) po_none)) (blkOk_by (own := [("link", 1)]) (N := ["self", "link", "rights", "lefts", "node", "outs"]) (sc := defScope s_Links__dump_parts) (by decide +kernel)) (fun _ _ _ _ _ => (pg_name (i := 1) sc_Links__dump_parts.nd rfl (Or.inl rfl))) (fun _ _ _ _ _ => pts_nil) (fun _ _ _ _ _ => (pe_callTy b_str rfl T.b_str (by decide +kernel) (pa_cons (pv 1) pa_nil))))
      (pss_cons (ps_setLc (i := 5) (own := [("node", 4)]) (g := (gName 4)) rfl sc_Links__dump_parts.nd rfl rfl (sw_true rfl rfl rfl (by decide +kernel)) (pi_range2 rfl T.b_range (pa_cons pe_int (pa_cons (pe_op o_add (pe_fld (pv 0) rfl) pe_int) pa_nil))) (blkOk_by (own := [("node", 4)]) (N := ["self", "link", "rights", "lefts", "node", "outs"]) (sc := defScope s_Links__dump_parts) (by decide +kernel)) (fun _ _ _ _ _ => (pg_name (i := 4) sc_Links__dump_parts.nd rfl (Or.inl rfl))) (fun _ _ _ _ _ => (pts_one (show PT _ _ (cTru K _) from (pt_tru (pe_ix (show IxR _ (rIx K) from ix_seq) (show PE _ _ (tFld K _ _) from (pe_fld (pv 0) rfl)) (pv 4) (fun _ _ => rfl)))))) (fun _ _ _ _ _ => (pe_callTy b_str rfl T.b_str (by decide +kernel) (pa_cons (pv 4) pa_nil))))
      (pss_one (ps_ret (pe_lst (pa_cons (pe_bm PySem.F.plainAttrs_str PySem.F.slot_str_join PySem.F.type_str_join m_join pe_str (pa_cons (pv 2) pa_nil)) (pa_cons (pe_bm PySem.F.plainAttrs_str PySem.F.slot_str_join PySem.F.type_str_join m_join pe_str (pa_cons (pv 3) pa_nil)) (pa_cons (pe_ifExp (pt_cmpA op_gt (pe_callB (b_len) rfl T.b_len (by decide +kernel) (pa_cons (pv 5) pa_nil)) pe_int (nomark _)) (pe_bm PySem.F.plainAttrs_str PySem.F.slot_str_join PySem.F.type_str_join m_join pe_str (pa_cons (pv 5) pa_nil)) pe_str) pa_nil))))))))), ?_⟩
  show (_ : Ends → L2.St → Hp → Prop) _ [some _, none, none, none, none, none] _
  try dsimp only [L2H.cxH, cxOf]
  walk_at "w"
  rw [cut_last]
  intro r1 hr1
  have kr : Kp [] H (upd H r1 (.lst (R.map V.int))) := Kp.refl.new hr1
  have hr11 : upd H r1 (.lst (R.map V.int)) r1 = some (.lst (R.map V.int)) := upd_same
  generalize upd H r1 (.lst (R.map V.int)) = H1 at kr hr11
  refine w_lcM (us := R) (f := V.int) (f' := V.str) (fun o => some (strI o)) hr11 (by rw [sizeLine_eq]; omega) ?_ ?_
  · intro D i u acc H' hD hu hk hA hlen
    have hub := w.rs u (List.mem_of_getElem? hu)
    walk_at "w"
    refine ⟨rfl, ?_⟩
    walk_at "w"
    exact w_keep hk hA hlen hD rfl
  · intro d1 H2 hd1 hk2 hA2
    rw [fm_some] at hA2
    have k2 := kr.trans hk2
    have hx2 := k2.at0 hx
    have hl2 := k2.at0 hl
    have hf2 := k2.at0 hf
    walk_at "w"
    rw [cut_tail]
    intro r3 hr3
    have d13 : d1 ≠ r3 := ne_of_none hA2 hr3
    have k3 : Kp [] H (upd H2 r3 (.lst ((L.drop 1).map V.int))) := k2.new hr3
    have hr33 : upd H2 r3 (.lst ((L.drop 1).map V.int)) r3 = some (.lst ((L.drop 1).map V.int)) := upd_same
    have hd3 : upd H2 r3 (.lst ((L.drop 1).map V.int)) d1 = some (.lst ((R.map strI).map V.str)) := upd_get d13 hA2
    generalize upd H2 r3 (.lst ((L.drop 1).map V.int)) = H3 at k3 hr33 hd3
    refine w_lcM (us := L.drop 1) (f := V.int) (f' := V.str) (fun o => some (strI o)) hr33 (by rw [sizeLine_eq, List.length_drop]; omega) ?_ ?_
    · intro D i u acc H' hD hu hk hA hlen
      have hub := w.ls u (List.mem_of_getElem? hu)
      walk_at "w"
      refine ⟨rfl, ?_⟩
      walk_at "w"
      exact w_keep hk hA hlen hD rfl
    · intro d2 H4 hd2 hk4 hA4
      rw [fm_some] at hA4
      have hd14 := hk4.at0 hd3
      have k4 := k3.trans hk4
      have hx4 := k4.at0 hx
      have hf4 := k4.at0 hf
      walk_at "w"
      refine w_lcR2 (f' := V.str) (fun i : Nat => if F.getD (i + 1) default = true then some (strI (1 + (i : Int))) else none) (lo := 1) (n := n + 1) (by omega) (by omega) (by omega) (by omega) (by rw [sizeLine_eq]; omega) ?_ ?_
      · intro D i acc H' hD hi hk hA hlen
        have hx5 := hk.at0 hx4
        have hf5 := hk.at0 hf4
        walk_at "w"
        refine ⟨rfl, ?_⟩
        walk_at "w"
        rw [show (1 + (i : Int)).toNat = i + 1 by omega]
        refine w_iteb (fun c => ?_) (fun c => ?_)
        · walk_at "w"
          exact w_keep hk hA hlen hD (by rw [if_pos c]; rfl)
        · walk_at "w"
          exact w_drop hk hA (by rw [if_neg (by rw [c]; exact Bool.false_ne_true)])
      · intro d3 H5 hd3' hk5 hA5
        have eo : (List.range (n + 1 - 1).toNat).filterMap (fun i : Nat => if F.getD (i + 1) default = true then some (strI (1 + (i : Int))) else none) = (outL n F).map strI := by
          unfold outL
          rw [List.map_filterMap, show (n + 1 - 1).toNat = n.toNat by omega]
          apply fm_congr
          intro i _
          split <;> rfl
        rw [eo] at hA5
        have hd15 := hk5.at0 hd14
        have hd25 := hk5.at0 hA4
        have k5 := k4.trans hk5
        have s1 := (nums_len w.rs).2
        have s2 := (nums_len w.ls).2
        have s3 := (nums_len w.os).2
        have ol := outL_len n F
        have sp1 : (" " : Str).length = 1 := by decide +kernel
        have b1 : ((R.map strI).map (·.length)).sum + (R.map strI).length * (" " : Str).length ≤ 16777216 := by rw [sp1, List.length_map]; omega
        have b2 : (((L.drop 1).map strI).map (·.length)).sum + ((L.drop 1).map strI).length * (" " : Str).length ≤ 16777216 := by rw [sp1, List.length_map]; rw [List.length_drop] at s2 ⊢; omega
        have b3 : (((outL n F).map strI).map (·.length)).sum + ((outL n F).map strI).length * (" " : Str).length ≤ 16777216 := by rw [sp1, List.length_map]; omega
        walk_at "w"
        unfold goneT at k
        refine w_ite (fun c => ?_) (fun c => ?_)
        · walk_at "w"
          intro p hp
          rw [if_neg (fun e => by rw [e] at c; simp at c)] at k
          exact k p _ (k5.free hp) (k5.new hp) upd_same
        · walk_at "w"
          intro p hp
          have e : outL n F = [] := by
            cases q : outL n F with
            | nil => rfl
            | cons o os => rw [q] at c; simp at c
          rw [if_pos e] at k
          exact k p _ (k5.free hp) (k5.new hp) upd_same
def sp_Links_dump (a : AD) : Sp := fun vs H Q E => ∃ (x l r f : Addr) (n : Int) (L R : List Int) (F : List Bool), vs = [.ref x] ∧ Lnk a H x l r f n L (R ++ [n + 2]) F ∧ WF n R L F ∧ ∀ H', Kp [] H H' → Q (.str (textOf n R L F)) H'
theorem sc_Links_dump : FnScope ["self"] ["self"] (defScope s_Links_dump) := ⟨rfl, rfl, rfl, by decide +kernel, rfl, by decide +kernel, by decide +kernel⟩
theorem ok_Links_dump {P : Program} {w : World} {K : PySem.W.Frag} {mg : Str → Option Value} {base : Heap} {a : AD} (T : Txt P K mg a) (G_Links__dump_parts : FnA P w K mg base 2 a.f_Links__dump_parts ["self"] (sp_Links__dump_parts a)) : FnA P w K mg base 3 a.f_Links_dump ["self"] (sp_Links_dump a) := by
  obtain ⟨fd, F, b⟩ := T.F_Links_dump
  refine FnA.of F sc_Links_dump b (fun vs H Q E h => by first | (obtain ⟨rfl, _⟩ := h; rfl) | (obtain ⟨_, rfl, _⟩ := h; rfl) | (obtain ⟨_, _, rfl, _⟩ := h; rfl) | (obtain ⟨_, _, _, rfl, _⟩ := h; rfl) | (obtain ⟨_, _, _, _, rfl, _⟩ := h; rfl) | (obtain ⟨_, _, _, _, _, rfl, _⟩ := h; rfl) | (obtain ⟨_, _, _, _, _, _, rfl, _⟩ := h; rfl) | (obtain ⟨_, _, _, _, _, _, _, rfl, _⟩ := h; rfl) | (obtain ⟨_, _, _, _, _, _, _, _, rfl, _⟩ := h; rfl) | (obtain ⟨_, _, _, _, _, _, _, _, _, rfl, _⟩ := h; rfl) | (obtain ⟨_, _, _, _, _, _, _, _, _, _, rfl, _⟩ := h; rfl) | (obtain ⟨_, _, _, _, _, _, _, _, _, _, _, rfl, _⟩ := h; rfl) | (obtain ⟨_, _, _, _, _, _, _, _, _, _, _, _, rfl, _⟩ := h; rfl) | (obtain ⟨_, _, _, _, _, _, _, _, _, _, _, _, _, rfl, _⟩ := h; rfl) | (obtain ⟨_, _, _, _, _, _, _, _, _, _, _, _, _, _, rfl, _⟩ := h; rfl) | (obtain ⟨_, _, _, _, _, _, _, _, _, _, _, _, _, _, _, rfl, _⟩ := h; rfl) | (obtain ⟨_, _, _, _, _, _, _, _, _, _, _, _, _, _, _, _, rfl, _⟩ := h; rfl) | (obtain ⟨_, _, _, _, _, _, _, _, _, _, _, _, _, _, _, _, _, rfl, _⟩ := h; rfl) | (obtain ⟨_, _, _, _, _, _, _, _, _, _, _, _, _, _, _, _, _, _, rfl, _⟩ := h; rfl) | (obtain ⟨_, _, _, _, _, _, _, _, _, _, _, _, _, _, _, _, _, _, _, rfl, _⟩ := h; rfl) | (obtain ⟨_, _, _, _, _, _, _, _, _, _, _, _, _, _, _, _, _, _, _, _, rfl, _⟩ := h; rfl) | (obtain ⟨_, _, _, _, _, _, _, _, _, _, _, _, _, _, _, _, _, _, _, _, _, rfl, _⟩ := h; rfl) | (obtain ⟨_, _, _, _, _, _, _, _, _, _, _, _, _, _, _, _, _, _, _, _, _, _, rfl, _⟩ := h; rfl) | (obtain ⟨_, _, _, _, _, _, _, _, _, _, _, _, _, _, _, _, _, _, _, _, _, _, _, rfl, _⟩ := h; rfl)) (fun cdv A outer s H vs Q E hr tk pz h => ?_)
  have hu := hr.units
  have hrH := L2H.roomH_of hr
  obtain ⟨x, l, r, f, n, L, R, F, rfl, hL, w, k⟩ := h
  have hx := hL.1.choose_spec
  refine ⟨_, (pss_one (ps_ret (pe_bm PySem.F.plainAttrs_str PySem.F.slot_str_join PySem.F.type_str_join m_join pe_str (pa_cons (pe_methS0 (pl := _) G_Links__dump_parts (Room.mono hr (by decide)) T.cl_Links T.me_Links__dump_parts tk (pv 0)) pa_nil)))), ?_⟩
  show (_ : Ends → L2.St → Hp → Prop) _ [some _] _
  try dsimp only [L2H.cxH, cxOf]
  have hb : (" | " : Str).length = 3 := by decide +kernel
  have htl := text_len w
  walk_at "w"
  refine ⟨x, l, r, f, n, L, R, F, rfl, hL, w, fun p H1 hp k1 hp1 => ?_⟩
  walk_at "w"
  refine w_join hp1 ?_ ?_
  · rw [hb]
    simp only [List.map_cons, List.map_nil, List.sum_cons, List.sum_nil, List.length_cons, List.length_nil]
    omega
  · rw [join_three]
    exact k H1 k1

def sp_Links_is_out (a : AD) : Sp := fun vs H Q E => ∃ (x l r f : Addr) (n v : Int) (L R : List Int) (F : List Bool), vs = [.ref x, .int v] ∧ Lnk a H x l r f n L R F ∧ F.length = (n + 2).toNat ∧ (¬(0 ≤ v ∧ v ≤ n + 1) → xBadNode a (.int v) E H) ∧ (0 ≤ v → v ≤ n + 1 → Q (.bl (F.getD v.toNat default)) H)
theorem sc_Links_is_out : FnScope ["self", "node"] ["self", "node"] (defScope s_Links_is_out) := ⟨rfl, rfl, rfl, by decide +kernel, rfl, by decide +kernel, by decide +kernel⟩
theorem ok_Links_is_out {P : Program} {w : World} {K : PySem.W.Frag} {mg : Str → Option Value} {base : Heap} {a : AD} (T : Txt P K mg a) : FnA P w K mg base 2 a.f_Links_is_out ["self", "node"] (sp_Links_is_out a) := by
  obtain ⟨fd, F, b⟩ := T.F_Links_is_out
  refine FnA.of F sc_Links_is_out b (fun vs H Q E h => by first | (obtain ⟨rfl, _⟩ := h; rfl) | (obtain ⟨_, rfl, _⟩ := h; rfl) | (obtain ⟨_, _, rfl, _⟩ := h; rfl) | (obtain ⟨_, _, _, rfl, _⟩ := h; rfl) | (obtain ⟨_, _, _, _, rfl, _⟩ := h; rfl) | (obtain ⟨_, _, _, _, _, rfl, _⟩ := h; rfl) | (obtain ⟨_, _, _, _, _, _, rfl, _⟩ := h; rfl) | (obtain ⟨_, _, _, _, _, _, _, rfl, _⟩ := h; rfl) | (obtain ⟨_, _, _, _, _, _, _, _, rfl, _⟩ := h; rfl) | (obtain ⟨_, _, _, _, _, _, _, _, _, rfl, _⟩ := h; rfl) | (obtain ⟨_, _, _, _, _, _, _, _, _, _, rfl, _⟩ := h; rfl) | (obtain ⟨_, _, _, _, _, _, _, _, _, _, _, rfl, _⟩ := h; rfl) | (obtain ⟨_, _, _, _, _, _, _, _, _, _, _, _, rfl, _⟩ := h; rfl) | (obtain ⟨_, _, _, _, _, _, _, _, _, _, _, _, _, rfl, _⟩ := h; rfl) | (obtain ⟨_, _, _, _, _, _, _, _, _, _, _, _, _, _, rfl, _⟩ := h; rfl) | (obtain ⟨_, _, _, _, _, _, _, _, _, _, _, _, _, _, _, rfl, _⟩ := h; rfl) | (obtain ⟨_, _, _, _, _, _, _, _, _, _, _, _, _, _, _, _, rfl, _⟩ := h; rfl) | (obtain ⟨_, _, _, _, _, _, _, _, _, _, _, _, _, _, _, _, _, rfl, _⟩ := h; rfl) | (obtain ⟨_, _, _, _, _, _, _, _, _, _, _, _, _, _, _, _, _, _, rfl, _⟩ := h; rfl) | (obtain ⟨_, _, _, _, _, _, _, _, _, _, _, _, _, _, _, _, _, _, _, rfl, _⟩ := h; rfl) | (obtain ⟨_, _, _, _, _, _, _, _, _, _, _, _, _, _, _, _, _, _, _, _, rfl, _⟩ := h; rfl) | (obtain ⟨_, _, _, _, _, _, _, _, _, _, _, _, _, _, _, _, _, _, _, _, _, rfl, _⟩ := h; rfl) | (obtain ⟨_, _, _, _, _, _, _, _, _, _, _, _, _, _, _, _, _, _, _, _, _, _, rfl, _⟩ := h; rfl) | (obtain ⟨_, _, _, _, _, _, _, _, _, _, _, _, _, _, _, _, _, _, _, _, _, _, _, rfl, _⟩ := h; rfl)) (fun cdv A outer s H vs Q E hr tk pz h => ?_)
  have hu := hr.units
  have hrH := L2H.roomH_of hr
  obtain ⟨x, l, r, f, n, v, L, R, F, rfl, ⟨⟨dx, hx⟩, hl, hr', hf, _⟩, h3, hb, k⟩ := h
  refine ⟨_, (pss_cons (ps_if (pt_not (pt_chainA op_le op_le pe_int (pv 1) (pe_op o_add (pe_fld (pv 0) rfl) pe_int))) (pss_one (L2N.ps_raise rfl tk (Lk.pmk_own T.x_BadNode (List.cons_ne_nil _ _) hr T.c_BadNode (by exact (pa_cons (pv 1) pa_nil)) rfl))) pss_nil)
      (pss_one (ps_ret (pe_ix ix_seq (pe_fld (pv 0) rfl) (pv 1) (fun _ _ => rfl))))), ?_⟩
  show (_ : Ends → L2.St → Hp → Prop) _ [some _, some _] _
  try dsimp only [L2H.cxH, cxOf]
  walk_at "w"
  refine w_ite (fun c1 => ?_) (fun c1 => ?_)
  · walk_at "w"
    refine w_iteN (fun c2 => ?_) (fun c2 => ?_)
    · walk_at "w"
      refine ⟨rfl, fun d hd => hb (fun z => c2 z.2) d _ hd upd_same (Kp.refl.new hd)⟩
    · walk_at "w"
      exact k c1 c2
  · walk_at "w"
    refine ⟨rfl, fun d hd => hb (fun z => c1 z.1) d _ hd upd_same (Kp.refl.new hd)⟩

/-! ### the law's own standing: [size, rights, lefts, flags] -/
def Wd (H : Hp) (w r l f : Addr) (n : Int) (R L : List Int) (F : List Bool) : Prop := H w = some (.lst [.int n, .ref r, .ref l, .ref f]) ∧ H r = some (.lst (R.map V.int)) ∧ H l = some (.lst (L.map V.int)) ∧ H f = some (.lst (F.map V.bl)) ∧ w ≠ r ∧ w ≠ l ∧ w ≠ f ∧ r ≠ l ∧ r ≠ f ∧ l ≠ f
theorem Wd.kp {ms : List Addr} {H H' : Hp} {w r l f : Addr} {n : Int} {R L : List Int} {F : List Bool} (h : Wd H w r l f n R L F) (k : Kp ms H H') (h1 : w ∉ ms) (h2 : r ∉ ms) (h3 : l ∉ ms) (h4 : f ∉ ms) : Wd H' w r l f n R L F :=
  ⟨k.at h.1 h1, k.at h.2.1 h2, k.at h.2.2.1 h3, k.at h.2.2.2.1 h4, h.2.2.2.2⟩
theorem Wd.kp0 {H H' : Hp} {w r l f : Addr} {n : Int} {R L : List Int} {F : List Bool} (h : Wd H w r l f n R L F) (k : Kp [] H H') : Wd H' w r l f n R L F := h.kp k List.not_mem_nil List.not_mem_nil List.not_mem_nil List.not_mem_nil
/-! ### a drawn standing -/
/-- as WF, but the flags are of the law's own list -/
theorem rep_get {α : Type} [Inhabited α] {n i : Nat} {u : α} (h : i < n) : (List.replicate n u).getD i default = u := by
  simp [List.getD, List.getElem?_replicate, h]
theorem fm_rep {β : Type} {b : β} : ∀ {k : Nat}, (List.range k).filterMap (fun _ => some b) = List.replicate k b
  | 0 => rfl
  | k + 1 => by rw [List.range_succ, List.filterMap_append, fm_rep, List.replicate_succ']; rfl
def r0 (n : Int) : List Int := (List.range (n + 1).toNat).map fun i : Nat => (i : Int) + 1
def l0 (n : Int) : List Int := (List.range (n + 2).toNat).map fun i : Nat => (i : Int) - 1
theorem wf0 {n : Int} (n0 : 0 ≤ n) (n1 : n ≤ 60) : WF n (r0 n) (l0 n) (List.replicate (n + 2).toNat false) where
  n0 := n0
  n1 := n1
  hR := by simp [r0]
  hL := by simp [l0]
  hF := by simp
  r := fun i u h => by
    unfold r0 at h
    rw [List.getElem?_map] at h
    by_cases z : i < (n + 1).toNat
    · rw [List.getElem?_range z] at h
      have h : (i : Int) + 1 = u := Option.some.inj h
      omega
    · rw [List.getElem?_eq_none (by simp; omega)] at h
      cases h
  l0 := by
    unfold l0
    rw [List.getElem?_map, List.getElem?_range (by omega)]; rfl
  l := fun i u hi h => by
    unfold l0 at h
    rw [List.getElem?_map] at h
    by_cases z : i < (n + 2).toNat
    · rw [List.getElem?_range z] at h
      have h : (i : Int) - 1 = u := Option.some.inj h
      omega
    · rw [List.getElem?_eq_none (by simp; omega)] at h
      cases h
  f0 := rep_get (by omega)
  f1 := rep_get (by omega)
theorem get_set {us : List Int} {i j : Nat} {u v : Int} (h : (us.set i u)[j]? = some v) : (i = j ∧ v = u) ∨ (i ≠ j ∧ us[j]? = some v) := by
  by_cases z : i = j
  · subst z
    rw [List.getElem?_set_self'] at h
    cases q : us[i]? with
    | none => rw [q] at h; cases h
    | some x => rw [q] at h; cases h; exact .inl ⟨rfl, rfl⟩
  · rw [List.getElem?_set_ne z] at h
    exact .inr ⟨z, h⟩
theorem WF.setR {n : Int} {R L : List Int} {F : List Bool} (w : WF n R L F) {i : Nat} {u : Int} (h : (i : Int) < u ∧ u ≤ n + 1) : WF n (R.set i u) L F := by
  refine ⟨w.n0, w.n1, by rw [List.length_set]; exact w.hR, w.hL, w.hF, fun j v e => ?_, w.l0, w.l, w.f0, w.f1⟩
  rcases get_set e with ⟨rfl, rfl⟩ | ⟨_, e⟩
  · exact h
  · exact w.r j v e
theorem WF.setL {n : Int} {R L : List Int} {F : List Bool} (w : WF n R L F) {i : Nat} {u : Int} (h : 1 ≤ i) (h2 : 0 ≤ u ∧ u < (i : Int)) : WF n R (L.set i u) F := by
  refine ⟨w.n0, w.n1, w.hR, by rw [List.length_set]; exact w.hL, w.hF, w.r, by rw [List.getElem?_set_ne (by omega)]; exact w.l0, fun j v hj e => ?_, w.f0, w.f1⟩
  rcases get_set e with ⟨rfl, rfl⟩ | ⟨_, e⟩
  · exact h2
  · exact w.l j v hj e
theorem WF.setF {n : Int} {R L : List Int} {F : List Bool} (w : WF n R L F) {i : Nat} {u : Bool} (h : 1 ≤ i) (h2 : (i : Int) ≤ n) : WF n R L (F.set i u) :=
  ⟨w.n0, w.n1, w.hR, w.hL, by rw [List.length_set]; exact w.hF, w.r, w.l0, w.l, by rw [getD_set_ne (by omega)]; exact w.f0, by rw [getD_set_ne (by omega)]; exact w.f1⟩
/-- the law's step -/
def stR (R L : List Int) (o : Int) : List Int := R.set (L.getD o.natAbs default).toNat (if o < 0 then R.getD o.natAbs default else (o.natAbs : Int))
theorem WF.at {n : Int} {R L : List Int} {F : List Bool} (w : WF n R L F) {v : Nat} (h1 : 1 ≤ v) (h2 : (v : Int) ≤ n) : 0 ≤ L.getD v default ∧ L.getD v default < (v : Int) ∧ (v : Int) < R.getD v default ∧ R.getD v default ≤ n + 1 := by
  have hl : v < L.length := by rw [w.hL]; omega
  have hr : v < R.length := by rw [w.hR]; omega
  have a1 := w.l v _ h1 (getD_some hl)
  have a2 := w.r v _ (getD_some hr)
  omega
theorem WF.ap {n : Int} {R L : List Int} {F : List Bool} (w : WF n R L F) {o : Int} (h : IsOp n o) : WF n (apR L R o) (apL L R o) (apF F o) := by
  have h1 := h.1
  have h2 := h.2
  have q := w.at (v := o.natAbs) (by omega) h2
  unfold apR apL apF
  have wr : WF n (R.set (L.getD o.natAbs default).toNat (if o < 0 then R.getD o.natAbs default else (o.natAbs : Int))) L F := w.setR (by split <;> omega)
  have wl := wr.setL (i := (R.getD o.natAbs default).toNat) (u := if o < 0 then L.getD o.natAbs default else (o.natAbs : Int)) (by omega) (by split <;> omega)
  exact wl.setF (by omega) (by omega)
/-! ### the gaps -/
def stateOf (R L : List Int) (g : Int) : Str := if R.getD g.toNat default = g + 1 then (if L.getD (g + 1).toNat default = g then "joined" else "left") else if L.getD (g + 1).toNat default = g then "right" else "lost"
/-- the object at x is what is asked, its lists as long as they should be -/
def Obj (a : AD) (H : Hp) (x l r f : Addr) (n : Int) (L R : List Int) (F : List Bool) : Prop := Lnk a H x l r f n L R F ∧ 0 ≤ n ∧ n ≤ 60 ∧ L.length = (n + 2).toNat ∧ R.length = (n + 2).toNat ∧ F.length = (n + 2).toNat
theorem Obj.kp0 {a : AD} {H H' : Hp} {x l r f : Addr} {n : Int} {L R : List Int} {F : List Bool} (h : Obj a H x l r f n L R F) (k : Kp [] H H') : Obj a H' x l r f n L R F := ⟨h.1.kp0 k, h.2⟩
def sp_left_holds (a : AD) : Sp := fun vs H Q E => ∃ (x l r f : Addr) (n g : Int) (L R : List Int) (F : List Bool), vs = [.ref x, .int g] ∧ Obj a H x l r f n L R F ∧ 0 ≤ g ∧ g ≤ n ∧ Q (.bl (decide (R.getD g.toNat default = g + 1))) H
theorem sc_left_holds : FnScope ["links", "gap"] ["links", "gap"] (defScope s_left_holds) := ⟨rfl, rfl, rfl, by decide +kernel, rfl, by decide +kernel, by decide +kernel⟩
theorem ok_left_holds {P : Program} {w : World} {K : PySem.W.Frag} {mg : Str → Option Value} {base : Heap} {a : AD} (T : Txt P K mg a) (G_Links_right : FnA P w K mg base 2 a.f_Links_right ["self", "node"] (sp_Links_right a)) : FnA P w K mg base 3 a.f_left_holds ["links", "gap"] (sp_left_holds a) := by
  obtain ⟨fd, F, b⟩ := T.F_left_holds
  refine FnA.of F sc_left_holds b (fun vs H Q E h => by first | (obtain ⟨rfl, _⟩ := h; rfl) | (obtain ⟨_, rfl, _⟩ := h; rfl) | (obtain ⟨_, _, rfl, _⟩ := h; rfl) | (obtain ⟨_, _, _, rfl, _⟩ := h; rfl) | (obtain ⟨_, _, _, _, rfl, _⟩ := h; rfl) | (obtain ⟨_, _, _, _, _, rfl, _⟩ := h; rfl) | (obtain ⟨_, _, _, _, _, _, rfl, _⟩ := h; rfl) | (obtain ⟨_, _, _, _, _, _, _, rfl, _⟩ := h; rfl) | (obtain ⟨_, _, _, _, _, _, _, _, rfl, _⟩ := h; rfl) | (obtain ⟨_, _, _, _, _, _, _, _, _, rfl, _⟩ := h; rfl) | (obtain ⟨_, _, _, _, _, _, _, _, _, _, rfl, _⟩ := h; rfl) | (obtain ⟨_, _, _, _, _, _, _, _, _, _, _, rfl, _⟩ := h; rfl) | (obtain ⟨_, _, _, _, _, _, _, _, _, _, _, _, rfl, _⟩ := h; rfl) | (obtain ⟨_, _, _, _, _, _, _, _, _, _, _, _, _, rfl, _⟩ := h; rfl) | (obtain ⟨_, _, _, _, _, _, _, _, _, _, _, _, _, _, rfl, _⟩ := h; rfl) | (obtain ⟨_, _, _, _, _, _, _, _, _, _, _, _, _, _, _, rfl, _⟩ := h; rfl) | (obtain ⟨_, _, _, _, _, _, _, _, _, _, _, _, _, _, _, _, rfl, _⟩ := h; rfl) | (obtain ⟨_, _, _, _, _, _, _, _, _, _, _, _, _, _, _, _, _, rfl, _⟩ := h; rfl) | (obtain ⟨_, _, _, _, _, _, _, _, _, _, _, _, _, _, _, _, _, _, rfl, _⟩ := h; rfl) | (obtain ⟨_, _, _, _, _, _, _, _, _, _, _, _, _, _, _, _, _, _, _, rfl, _⟩ := h; rfl) | (obtain ⟨_, _, _, _, _, _, _, _, _, _, _, _, _, _, _, _, _, _, _, _, rfl, _⟩ := h; rfl) | (obtain ⟨_, _, _, _, _, _, _, _, _, _, _, _, _, _, _, _, _, _, _, _, _, rfl, _⟩ := h; rfl) | (obtain ⟨_, _, _, _, _, _, _, _, _, _, _, _, _, _, _, _, _, _, _, _, _, _, rfl, _⟩ := h; rfl) | (obtain ⟨_, _, _, _, _, _, _, _, _, _, _, _, _, _, _, _, _, _, _, _, _, _, _, rfl, _⟩ := h; rfl)) (fun cdv A outer s H vs Q E hr tk pz h => ?_)
  have hu := hr.units
  have hrH := L2H.roomH_of hr
  obtain ⟨x, l, r, f, n, g, L, R, F, rfl, hO, g0, g1, k⟩ := h
  have hx := hO.1.1.choose_spec
  refine ⟨_, (pss_one (ps_ret (pe_cmpR (o_eq hu) (pe_methS (pl := _) G_Links_right (Room.mono hr (by decide)) T.cl_Links T.me_Links_right tk (pv 0) (pa_cons (pv 1) pa_nil)) (pe_op o_add (pv 1) pe_int) (nomark _)))), ?_⟩
  show (_ : Ends → L2.St → Hp → Prop) _ [some _, some _] _
  try dsimp only [L2H.cxH, cxOf]
  walk_at "w"
  refine ⟨x, l, r, f, n, g, L, R, F, rfl, hO.1, hO.2.2.2.2.1, fun z => absurd ⟨g0, g1⟩ z, fun _ _ => ?_⟩
  walk_at "w"
  exact k
def sp_right_holds (a : AD) : Sp := fun vs H Q E => ∃ (x l r f : Addr) (n g : Int) (L R : List Int) (F : List Bool), vs = [.ref x, .int g] ∧ Obj a H x l r f n L R F ∧ 0 ≤ g ∧ g ≤ n ∧ Q (.bl (decide (L.getD (g + 1).toNat default = g))) H
theorem sc_right_holds : FnScope ["links", "gap"] ["links", "gap"] (defScope s_right_holds) := ⟨rfl, rfl, rfl, by decide +kernel, rfl, by decide +kernel, by decide +kernel⟩
theorem ok_right_holds {P : Program} {w : World} {K : PySem.W.Frag} {mg : Str → Option Value} {base : Heap} {a : AD} (T : Txt P K mg a) (G_Links_left : FnA P w K mg base 2 a.f_Links_left ["self", "node"] (sp_Links_left a)) : FnA P w K mg base 3 a.f_right_holds ["links", "gap"] (sp_right_holds a) := by
  obtain ⟨fd, F, b⟩ := T.F_right_holds
  refine FnA.of F sc_right_holds b (fun vs H Q E h => by first | (obtain ⟨rfl, _⟩ := h; rfl) | (obtain ⟨_, rfl, _⟩ := h; rfl) | (obtain ⟨_, _, rfl, _⟩ := h; rfl) | (obtain ⟨_, _, _, rfl, _⟩ := h; rfl) | (obtain ⟨_, _, _, _, rfl, _⟩ := h; rfl) | (obtain ⟨_, _, _, _, _, rfl, _⟩ := h; rfl) | (obtain ⟨_, _, _, _, _, _, rfl, _⟩ := h; rfl) | (obtain ⟨_, _, _, _, _, _, _, rfl, _⟩ := h; rfl) | (obtain ⟨_, _, _, _, _, _, _, _, rfl, _⟩ := h; rfl) | (obtain ⟨_, _, _, _, _, _, _, _, _, rfl, _⟩ := h; rfl) | (obtain ⟨_, _, _, _, _, _, _, _, _, _, rfl, _⟩ := h; rfl) | (obtain ⟨_, _, _, _, _, _, _, _, _, _, _, rfl, _⟩ := h; rfl) | (obtain ⟨_, _, _, _, _, _, _, _, _, _, _, _, rfl, _⟩ := h; rfl) | (obtain ⟨_, _, _, _, _, _, _, _, _, _, _, _, _, rfl, _⟩ := h; rfl) | (obtain ⟨_, _, _, _, _, _, _, _, _, _, _, _, _, _, rfl, _⟩ := h; rfl) | (obtain ⟨_, _, _, _, _, _, _, _, _, _, _, _, _, _, _, rfl, _⟩ := h; rfl) | (obtain ⟨_, _, _, _, _, _, _, _, _, _, _, _, _, _, _, _, rfl, _⟩ := h; rfl) | (obtain ⟨_, _, _, _, _, _, _, _, _, _, _, _, _, _, _, _, _, rfl, _⟩ := h; rfl) | (obtain ⟨_, _, _, _, _, _, _, _, _, _, _, _, _, _, _, _, _, _, rfl, _⟩ := h; rfl) | (obtain ⟨_, _, _, _, _, _, _, _, _, _, _, _, _, _, _, _, _, _, _, rfl, _⟩ := h; rfl) | (obtain ⟨_, _, _, _, _, _, _, _, _, _, _, _, _, _, _, _, _, _, _, _, rfl, _⟩ := h; rfl) | (obtain ⟨_, _, _, _, _, _, _, _, _, _, _, _, _, _, _, _, _, _, _, _, _, rfl, _⟩ := h; rfl) | (obtain ⟨_, _, _, _, _, _, _, _, _, _, _, _, _, _, _, _, _, _, _, _, _, _, rfl, _⟩ := h; rfl) | (obtain ⟨_, _, _, _, _, _, _, _, _, _, _, _, _, _, _, _, _, _, _, _, _, _, _, rfl, _⟩ := h; rfl)) (fun cdv A outer s H vs Q E hr tk pz h => ?_)
  have hu := hr.units
  have hrH := L2H.roomH_of hr
  obtain ⟨x, l, r, f, n, g, L, R, F, rfl, hO, g0, g1, k⟩ := h
  have hx := hO.1.1.choose_spec
  refine ⟨_, (pss_one (ps_ret (pe_cmpR (o_eq hu) (pe_methS (pl := _) G_Links_left (Room.mono hr (by decide)) T.cl_Links T.me_Links_left tk (pv 0) (pa_cons (pe_op o_add (pv 1) pe_int) pa_nil)) (pv 1) (nomark _)))), ?_⟩
  show (_ : Ends → L2.St → Hp → Prop) _ [some _, some _] _
  try dsimp only [L2H.cxH, cxOf]
  walk_at "w"
  refine ⟨x, l, r, f, n, g + 1, L, R, F, rfl, hO.1, hO.2.2.2.1, fun z => absurd ⟨by omega, by omega⟩ z, fun _ _ => ?_⟩
  walk_at "w"
  exact k
def statesOf (n : Int) (R L : List Int) : List Str := (List.range (n + 1).toNat).map fun i : Nat => stateOf R L (i : Int)
def lostF (n : Int) (R L : List Int) : List Int := (List.range (n + 1).toNat).filterMap fun i : Nat => if stateOf R L (i : Int) = ("lost" : Str) then some (i : Int) else none
def soleF (n : Int) (R L : List Int) : List Int := (List.range n.toNat).filterMap fun i : Nat => if stateOf R L (i : Int) = ("right" : Str) ∨ stateOf R L (1 + (i : Int)) = ("left" : Str) then some (1 + (i : Int)) else none
theorem statesOf_get {n : Int} {R L : List Int} {i : Nat} (h : i < (n + 1).toNat) : (statesOf n R L)[i]? = some (stateOf R L (i : Int)) := by
  unfold statesOf
  rw [List.getElem?_map, List.getElem?_range h]; rfl
theorem statesOf_getD {n : Int} {R L : List Int} {i : Nat} (h : i < (n + 1).toNat) : (statesOf n R L).getD i default = stateOf R L (i : Int) := by
  rw [List.getD_eq_getElem?_getD, statesOf_get h]; rfl
theorem statesOf_len (n : Int) (R L : List Int) : (statesOf n R L).length = (n + 1).toNat := by
  unfold statesOf
  rw [List.length_map, List.length_range]
def sp_gap_states (a : AD) : Sp := fun vs H Q E => ∃ (x l r f : Addr) (n : Int) (L R : List Int) (F : List Bool), vs = [.ref x] ∧ Obj a H x l r f n L R F ∧ ∀ p H', H p = none → Kp [] H H' → H' p = some (.lst ((statesOf n R L).map V.str)) → Q (.ref p) H'
theorem zip_states {n : Int} {R L : List Int} {β : Type} {ψ : Nat → Str → Option β} : ((statesOf n R L).zipIdx.filterMap fun q => ψ q.2 q.1) = (List.range (n + 1).toNat).filterMap fun i : Nat => ψ i (stateOf R L (i : Int)) := by
  have e : (statesOf n R L).zipIdx = (List.range (n + 1).toNat).map fun i : Nat => (stateOf R L (i : Int), i) := by
    apply List.ext_getElem?
    intro i
    rw [List.getElem?_zipIdx, List.getElem?_map]
    by_cases h : i < (n + 1).toNat
    · rw [statesOf_get h, List.getElem?_range h]
      simp
    · rw [List.getElem?_eq_none (by rw [statesOf_len]; omega), List.getElem?_eq_none (by simp; omega)]
      rfl
  rw [e, List.filterMap_map]
  rfl
def sp_lost_gaps (a : AD) : Sp := fun vs H Q E => ∃ (x l r f : Addr) (n : Int) (L R : List Int) (F : List Bool), vs = [.ref x] ∧ Obj a H x l r f n L R F ∧ ∀ p H', H p = none → Kp [] H H' → H' p = some (.lst ((lostF n R L).map V.int)) → Q (.ref p) H'
def sp_sole_holders (a : AD) : Sp := fun vs H Q E => ∃ (x l r f : Addr) (n : Int) (L R : List Int) (F : List Bool), vs = [.ref x] ∧ Obj a H x l r f n L R F ∧ ∀ p H', H p = none → Kp [] H H' → H' p = some (.lst ((soleF n R L).map V.int)) → Q (.ref p) H'
theorem state_left {R L : List Int} {g : Int} : stateOf R L g = ("left" : Str) ↔ R.getD g.toNat default = g + 1 ∧ ¬L.getD (g + 1).toNat default = g := by
  have n1 : ¬("joined" : Str) = ("left" : Str) := by decide
  have n2 : ¬("right" : Str) = ("left" : Str) := by decide
  have n3 : ¬("lost" : Str) = ("left" : Str) := by decide
  unfold stateOf
  by_cases c1 : R.getD g.toNat default = g + 1
  · rw [if_pos c1]
    by_cases c2 : L.getD (g + 1).toNat default = g
    · rw [if_pos c2]; exact ⟨fun z => absurd z n1, fun z => absurd c2 z.2⟩
    · rw [if_neg c2]; exact ⟨fun _ => ⟨c1, c2⟩, fun _ => rfl⟩
  · rw [if_neg c1]
    by_cases c2 : L.getD (g + 1).toNat default = g
    · rw [if_pos c2]; exact ⟨fun z => absurd z n2, fun z => absurd z.1 c1⟩
    · rw [if_neg c2]; exact ⟨fun z => absurd z n3, fun z => absurd z.1 c1⟩
theorem state_right {R L : List Int} {g : Int} : stateOf R L g = ("right" : Str) ↔ ¬R.getD g.toNat default = g + 1 ∧ L.getD (g + 1).toNat default = g := by
  have n1 : ¬("joined" : Str) = ("right" : Str) := by decide
  have n2 : ¬("left" : Str) = ("right" : Str) := by decide
  have n3 : ¬("lost" : Str) = ("right" : Str) := by decide
  unfold stateOf
  by_cases c1 : R.getD g.toNat default = g + 1
  · rw [if_pos c1]
    by_cases c2 : L.getD (g + 1).toNat default = g
    · rw [if_pos c2]; exact ⟨fun z => absurd z n1, fun z => absurd c1 z.1⟩
    · rw [if_neg c2]; exact ⟨fun z => absurd z n2, fun z => absurd z.2 c2⟩
  · rw [if_neg c1]
    by_cases c2 : L.getD (g + 1).toNat default = g
    · rw [if_pos c2]; exact ⟨fun _ => ⟨c1, c2⟩, fun _ => rfl⟩
    · rw [if_neg c2]; exact ⟨fun z => absurd z n3, fun z => absurd z.2 c2⟩
theorem state_app {n : Int} {R L : List Int} {F : List Bool} (w : WF n R L F) {g : Nat} (h : g < (n + 1).toNat) {x : Int} : stateOf (R ++ [x]) L (g : Int) = stateOf R L (g : Int) := by
  have e : (R ++ [x]).getD (g : Int).toNat default = R.getD (g : Int).toNat default := by
    rw [List.getD_eq_getElem?_getD, List.getD_eq_getElem?_getD, List.getElem?_append_left (by rw [w.hR]; omega)]
  unfold stateOf
  rw [e]
theorem states_app {n : Int} {R L : List Int} {F : List Bool} (w : WF n R L F) {x : Int} : statesOf n (R ++ [x]) L = statesOf n R L := by
  unfold statesOf
  apply List.map_congr_left
  intro i hi
  rw [List.mem_range] at hi
  exact state_app w hi
theorem lost_app {n : Int} {R L : List Int} {F : List Bool} (w : WF n R L F) {x : Int} : lostF n (R ++ [x]) L = lostF n R L := by
  unfold lostF
  apply fm_congr
  intro i hi
  rw [List.mem_range] at hi
  rw [state_app w hi]
theorem sole_app {n : Int} {R L : List Int} {F : List Bool} (w : WF n R L F) {x : Int} : soleF n (R ++ [x]) L = soleF n R L := by
  have n0 := w.n0
  unfold soleF
  apply fm_congr
  intro i hi
  rw [List.mem_range] at hi
  rw [state_app w (by omega), show 1 + (i : Int) = ((i + 1 : Nat) : Int) by omega, state_app w (by omega)]
def soleK (R L : List Int) (k : Nat) : List Int := (List.range k).filterMap fun i : Nat => if stateOf R L (i : Int) = ("right" : Str) ∨ stateOf R L (1 + (i : Int)) = ("left" : Str) then some (1 + (i : Int)) else none
theorem soleK_succ (R L : List Int) (k : Nat) : soleK R L (k + 1) = soleK R L k ++ (if stateOf R L (k : Int) = ("right" : Str) ∨ stateOf R L (1 + (k : Int)) = ("left" : Str) then [1 + (k : Int)] else []) := by
  unfold soleK
  rw [List.range_succ, List.filterMap_append]
  congr 1
  rw [List.filterMap_cons, List.filterMap_nil]
  by_cases z : stateOf R L (k : Int) = ("right" : Str) ∨ stateOf R L (1 + (k : Int)) = ("left" : Str)
  · rw [if_pos z, if_pos z]
  · rw [if_neg z, if_neg z]
theorem soleK_len (R L : List Int) (k : Nat) : (soleK R L k).length ≤ k := by
  have := fm_len (fun i : Nat => if stateOf R L (i : Int) = ("right" : Str) ∨ stateOf R L (1 + (i : Int)) = ("left" : Str) then some (1 + (i : Int)) else none) (List.range k)
  rw [List.length_range] at this
  exact this
theorem lostF_len (n : Int) (R L : List Int) : (lostF n R L).length ≤ (n + 1).toNat := by
  have := fm_len (fun i : Nat => if stateOf R L (i : Int) = ("lost" : Str) then some (i : Int) else none) (List.range (n + 1).toNat)
  rw [List.length_range] at this
  exact this

/-! ### apart -/
theorem sep_of {H : Hp} {xs ys : List Addr} (fresh : ∀ x ∈ xs, H x = none) (live : ∀ y ∈ ys, ∃ o, H y = some o) : ∀ x ∈ xs, x ∉ ys := fun x hx hy => by
  obtain ⟨o, e⟩ := live x hy
  rw [fresh x hx] at e; cases e
theorem sep_of' {H : Hp} {xs ys : List Addr} (live : ∀ y ∈ xs, ∃ o, H y = some o) (fresh : ∀ x ∈ ys, H x = none) : ∀ x ∈ xs, x ∉ ys := fun x hx hy => by
  obtain ⟨o, e⟩ := live x hx
  rw [fresh x hy] at e; cases e
theorem Lnk.live {a : AD} {H : Hp} {x l r f : Addr} {n : Int} {L R : List Int} {F : List Bool} (h : Lnk a H x l r f n L R F) : ∀ y ∈ [x, l, r, f], ∃ o, H y = some o := by
  obtain ⟨⟨dx, h1⟩, h2, h3, h4, _⟩ := h
  intro y hy
  simp only [List.mem_cons, List.mem_nil_iff, or_false] at hy
  rcases hy with rfl | rfl | rfl | rfl
  · exact ⟨_, h1⟩
  · exact ⟨_, h2⟩
  · exact ⟨_, h3⟩
  · exact ⟨_, h4⟩
theorem Wd.live {H : Hp} {w r l f : Addr} {n : Int} {R L : List Int} {F : List Bool} (h : Wd H w r l f n R L F) : ∀ y ∈ [w, r, l, f], ∃ o, H y = some o := by
  obtain ⟨h1, h2, h3, h4, _⟩ := h
  intro y hy
  simp only [List.mem_cons, List.mem_nil_iff, or_false] at hy
  rcases hy with rfl | rfl | rfl | rfl
  · exact ⟨_, h1⟩
  · exact ⟨_, h2⟩
  · exact ⟨_, h3⟩
  · exact ⟨_, h4⟩
theorem four {H : Hp} {x l r f : Addr} (h1 : H x = none) (h2 : H l = none) (h3 : H r = none) (h4 : H f = none) : ∀ y ∈ [x, l, r, f], H y = none := by
  intro y hy
  simp only [List.mem_cons, List.mem_nil_iff, or_false] at hy
  rcases hy with rfl | rfl | rfl | rfl <;> assumption
theorem Lnk.kpS {a : AD} {ms : List Addr} {H H' : Hp} {x l r f : Addr} {n : Int} {L R : List Int} {F : List Bool} (h : Lnk a H x l r f n L R F) (k : Kp ms H H') (s : ∀ y ∈ [x, l, r, f], y ∉ ms) : Lnk a H' x l r f n L R F :=
  h.kp k (s x (by simp)) (s l (by simp)) (s r (by simp)) (s f (by simp))
theorem Wd.kpS {ms : List Addr} {H H' : Hp} {w r l f : Addr} {n : Int} {R L : List Int} {F : List Bool} (h : Wd H w r l f n R L F) (k : Kp ms H H') (s : ∀ y ∈ [w, r, l, f], y ∉ ms) : Wd H' w r l f n R L F :=
  h.kp k (s w (by simp)) (s r (by simp)) (s l (by simp)) (s f (by simp))
theorem sep_sub {xs ys zs : List Addr} (s : ∀ x ∈ xs, x ∉ ys) (h : ∀ z ∈ zs, z ∈ ys) : ∀ x ∈ xs, x ∉ zs := fun x hx hz => s x hx (h x hz)
theorem sep_mono {xs ys xs' ys' : List Addr} (s : ∀ x ∈ xs, x ∉ ys) (h1 : ∀ z ∈ xs', z ∈ xs) (h2 : ∀ z ∈ ys', z ∈ ys) : ∀ x ∈ xs', x ∉ ys' := fun x hx hz => s x (h1 x hx) (h2 x hz)
theorem sep_swap {xs ys : List Addr} (s : ∀ x ∈ xs, x ∉ ys) : ∀ y ∈ ys, y ∉ xs := fun y hy hx => s y hx hy
theorem ap_app {n : Int} {R L : List Int} {F : List Bool} (w : WF n R L F) {o x : Int} (h : IsOp n o) : apR L (R ++ [x]) o = apR L R o ++ [x] ∧ apL L (R ++ [x]) o = apL L R o := by
  have h2 := h.2
  have h1 := h.1
  have q := w.at (v := o.natAbs) (by omega) h2
  have hR := w.hR
  have e : (R ++ [x]).getD o.natAbs default = R.getD o.natAbs default := by
    rw [List.getD_eq_getElem?_getD, List.getD_eq_getElem?_getD, List.getElem?_append_left (by omega)]
  unfold apR apL
  rw [e, List.set_append_left _ _ (by omega)]
  exact ⟨rfl, rfl⟩

/-! ### changes of gaps -/
def sp_Links_operation_on (a : AD) : Sp := fun vs H Q E => ∃ (x l r f : Addr) (n v : Int) (L R : List Int) (F : List Bool), vs = [.ref x, .int v] ∧ Obj a H x l r f n L R F ∧ 0 ≤ v ∧ v ≤ n + 1 ∧ Q (.int (if F.getD v.toNat default = true then v else -v)) H
theorem sc_Links_operation_on : FnScope ["self", "node"] ["self", "node"] (defScope s_Links_operation_on) := ⟨rfl, rfl, rfl, by decide +kernel, rfl, by decide +kernel, by decide +kernel⟩
theorem ok_Links_operation_on {P : Program} {w : World} {K : PySem.W.Frag} {mg : Str → Option Value} {base : Heap} {a : AD} (T : Txt P K mg a) : FnA P w K mg base 2 a.f_Links_operation_on ["self", "node"] (sp_Links_operation_on a) := by
  obtain ⟨fd, F, b⟩ := T.F_Links_operation_on
  refine FnA.of F sc_Links_operation_on b (fun vs H Q E h => by first | (obtain ⟨rfl, _⟩ := h; rfl) | (obtain ⟨_, rfl, _⟩ := h; rfl) | (obtain ⟨_, _, rfl, _⟩ := h; rfl) | (obtain ⟨_, _, _, rfl, _⟩ := h; rfl) | (obtain ⟨_, _, _, _, rfl, _⟩ := h; rfl) | (obtain ⟨_, _, _, _, _, rfl, _⟩ := h; rfl) | (obtain ⟨_, _, _, _, _, _, rfl, _⟩ := h; rfl) | (obtain ⟨_, _, _, _, _, _, _, rfl, _⟩ := h; rfl) | (obtain ⟨_, _, _, _, _, _, _, _, rfl, _⟩ := h; rfl) | (obtain ⟨_, _, _, _, _, _, _, _, _, rfl, _⟩ := h; rfl) | (obtain ⟨_, _, _, _, _, _, _, _, _, _, rfl, _⟩ := h; rfl) | (obtain ⟨_, _, _, _, _, _, _, _, _, _, _, rfl, _⟩ := h; rfl) | (obtain ⟨_, _, _, _, _, _, _, _, _, _, _, _, rfl, _⟩ := h; rfl) | (obtain ⟨_, _, _, _, _, _, _, _, _, _, _, _, _, rfl, _⟩ := h; rfl) | (obtain ⟨_, _, _, _, _, _, _, _, _, _, _, _, _, _, rfl, _⟩ := h; rfl) | (obtain ⟨_, _, _, _, _, _, _, _, _, _, _, _, _, _, _, rfl, _⟩ := h; rfl) | (obtain ⟨_, _, _, _, _, _, _, _, _, _, _, _, _, _, _, _, rfl, _⟩ := h; rfl) | (obtain ⟨_, _, _, _, _, _, _, _, _, _, _, _, _, _, _, _, _, rfl, _⟩ := h; rfl) | (obtain ⟨_, _, _, _, _, _, _, _, _, _, _, _, _, _, _, _, _, _, rfl, _⟩ := h; rfl) | (obtain ⟨_, _, _, _, _, _, _, _, _, _, _, _, _, _, _, _, _, _, _, rfl, _⟩ := h; rfl) | (obtain ⟨_, _, _, _, _, _, _, _, _, _, _, _, _, _, _, _, _, _, _, _, rfl, _⟩ := h; rfl) | (obtain ⟨_, _, _, _, _, _, _, _, _, _, _, _, _, _, _, _, _, _, _, _, _, rfl, _⟩ := h; rfl) | (obtain ⟨_, _, _, _, _, _, _, _, _, _, _, _, _, _, _, _, _, _, _, _, _, _, rfl, _⟩ := h; rfl) | (obtain ⟨_, _, _, _, _, _, _, _, _, _, _, _, _, _, _, _, _, _, _, _, _, _, _, rfl, _⟩ := h; rfl)) (fun cdv A outer s H vs Q E hr tk pz h => ?_)
  have hu := hr.units
  have hrH := L2H.roomH_of hr
  obtain ⟨x, l, r, f, n, v, L, R, F, rfl, hO, v0, v1, k⟩ := h
  obtain ⟨⟨⟨dx, hx⟩, hl, hr', hf, _⟩, n0, n1, w1, w2, w3⟩ := hO
  refine ⟨_, (pss_one (ps_ret (pe_ifExp (pt_tru (pe_ix ix_seq (pe_fld (pv 0) rfl) (pv 1) (fun _ _ => rfl))) (pv 1) (pe_un un_neg (pv 1))))), ?_⟩
  show (_ : Ends → L2.St → Hp → Prop) _ [some _, some _] _
  try dsimp only [L2H.cxH, cxOf]
  walk_at "w"
  refine w_iteb (fun c => ?_) (fun c => ?_)
  · rw [if_pos c] at k
    walk_at "w"
    exact k
  · rw [if_neg (by rw [c]; exact Bool.false_ne_true)] at k
    walk_at "w"
    exact k
def sp_touched_gaps (a : AD) : Sp := fun vs H Q E => ∃ (x l r f : Addr) (n v : Int) (L R : List Int) (F : List Bool), vs = [.ref x, .int v] ∧ Obj a H x l r f n L R F ∧ 1 ≤ v ∧ v ≤ n ∧ ∀ p, H p = none → Q (.ref p) (upd H p (.lst ([L.getD v.toNat default, R.getD v.toNat default - 1].map V.int)))
/-- the changes at the touched gaps -/
def chgAt (R L R' L' : List Int) (g : Int) : List (List V) := if stateOf R L g = stateOf R' L' g then [] else [[.int g, .str (stateOf R L g), .str (stateOf R' L' g)]]
def chgF (R L : List Int) (o : Int) : List (List V) := chgAt R L (apR L R o) (apL L R o) (L.getD o.natAbs default) ++ chgAt R L (apR L R o) (apL L R o) (R.getD o.natAbs default - 1)
/-- the refusals of an operation -/
def refuseSp (a : AD) (n o : Int) (F : List Bool) (H : Hp) (E : XK) (k : Prop) : Prop := (¬IsOp n o → xBadOperation a (.int o) (.int 0) E H) ∧ (IsOp n o → F.getD o.natAbs default = decide (o < 0) → xIllegal a (.int o) (.int 0) E H) ∧ (IsOp n o → F.getD o.natAbs default ≠ decide (o < 0) → k)
def sp_gap_changes (a : AD) : Sp := fun vs H Q E => ∃ (x l r f : Addr) (n o : Int) (L R : List Int) (F : List Bool), vs = [.ref x, .int o] ∧ Obj a H x l r f n L R F ∧
  refuseSp a n o F H E (0 ≤ L.getD o.natAbs default ∧ L.getD o.natAbs default ≤ n ∧ 1 ≤ R.getD o.natAbs default ∧ R.getD o.natAbs default ≤ n + 1 ∧ ∀ p xs H', H p = none → Kp [] H H' → H' p = some (.lst xs) → Tps H' xs (chgF R L o) → Q (.ref p) H')
/-- the gaps of the foreign writes -/
def frgF (R L : List Int) (v : Int) : List Int := (if L.getD v.toNat default ≠ v - 1 ∧ R.getD (L.getD v.toNat default).toNat default = L.getD v.toNat default + 1 then [L.getD v.toNat default] else []) ++
  (if R.getD v.toNat default ≠ v + 1 ∧ L.getD (R.getD v.toNat default).toNat default = R.getD v.toNat default - 1 then [R.getD v.toNat default - 1] else [])
def sp_foreign_writes (a : AD) : Sp := fun vs H Q E => ∃ (x l r f : Addr) (n o : Int) (L R : List Int) (F : List Bool), vs = [.ref x, .int o] ∧ Obj a H x l r f n L R F ∧
  refuseSp a n o F H E (0 ≤ L.getD o.natAbs default ∧ L.getD o.natAbs default ≤ n ∧ 1 ≤ R.getD o.natAbs default ∧ R.getD o.natAbs default ≤ n + 1 ∧ ∀ p H', H p = none → Kp [] H H' → H' p = some (.lst ((frgF R L (o.natAbs : Int)).map V.int)) → Q (.ref p) H')
theorem sc_foreign_writes : FnScope ["links", "operation", "node", "left", "right", "gaps"] ["links", "operation"] (defScope s_foreign_writes) := ⟨rfl, rfl, rfl, by decide +kernel, rfl, by decide +kernel, by decide +kernel⟩
theorem ok_foreign_writes {P : Program} {w : World} {K : PySem.W.Frag} {mg : Str → Option Value} {base : Heap} {a : AD} (T : Txt P K mg a) (G_check_operation : FnA P w K mg base 2 a.f_check_operation ["size", "operation", "index"] (sp_check_operation a)) (G_Links_operation_on : FnA P w K mg base 2 a.f_Links_operation_on ["self", "node"] (sp_Links_operation_on a)) (G_Links_left : FnA P w K mg base 2 a.f_Links_left ["self", "node"] (sp_Links_left a)) (G_Links_right : FnA P w K mg base 2 a.f_Links_right ["self", "node"] (sp_Links_right a)) (G_left_holds : FnA P w K mg base 3 a.f_left_holds ["links", "gap"] (sp_left_holds a)) (G_right_holds : FnA P w K mg base 3 a.f_right_holds ["links", "gap"] (sp_right_holds a)) : FnA P w K mg base 4 a.f_foreign_writes ["links", "operation"] (sp_foreign_writes a) := by
  obtain ⟨fd, F, b⟩ := T.F_foreign_writes
  refine FnA.of F sc_foreign_writes b (fun vs H Q E h => by first | (obtain ⟨rfl, _⟩ := h; rfl) | (obtain ⟨_, rfl, _⟩ := h; rfl) | (obtain ⟨_, _, rfl, _⟩ := h; rfl) | (obtain ⟨_, _, _, rfl, _⟩ := h; rfl) | (obtain ⟨_, _, _, _, rfl, _⟩ := h; rfl) | (obtain ⟨_, _, _, _, _, rfl, _⟩ := h; rfl) | (obtain ⟨_, _, _, _, _, _, rfl, _⟩ := h; rfl) | (obtain ⟨_, _, _, _, _, _, _, rfl, _⟩ := h; rfl) | (obtain ⟨_, _, _, _, _, _, _, _, rfl, _⟩ := h; rfl) | (obtain ⟨_, _, _, _, _, _, _, _, _, rfl, _⟩ := h; rfl) | (obtain ⟨_, _, _, _, _, _, _, _, _, _, rfl, _⟩ := h; rfl) | (obtain ⟨_, _, _, _, _, _, _, _, _, _, _, rfl, _⟩ := h; rfl) | (obtain ⟨_, _, _, _, _, _, _, _, _, _, _, _, rfl, _⟩ := h; rfl) | (obtain ⟨_, _, _, _, _, _, _, _, _, _, _, _, _, rfl, _⟩ := h; rfl) | (obtain ⟨_, _, _, _, _, _, _, _, _, _, _, _, _, _, rfl, _⟩ := h; rfl) | (obtain ⟨_, _, _, _, _, _, _, _, _, _, _, _, _, _, _, rfl, _⟩ := h; rfl) | (obtain ⟨_, _, _, _, _, _, _, _, _, _, _, _, _, _, _, _, rfl, _⟩ := h; rfl) | (obtain ⟨_, _, _, _, _, _, _, _, _, _, _, _, _, _, _, _, _, rfl, _⟩ := h; rfl) | (obtain ⟨_, _, _, _, _, _, _, _, _, _, _, _, _, _, _, _, _, _, rfl, _⟩ := h; rfl) | (obtain ⟨_, _, _, _, _, _, _, _, _, _, _, _, _, _, _, _, _, _, _, rfl, _⟩ := h; rfl) | (obtain ⟨_, _, _, _, _, _, _, _, _, _, _, _, _, _, _, _, _, _, _, _, rfl, _⟩ := h; rfl) | (obtain ⟨_, _, _, _, _, _, _, _, _, _, _, _, _, _, _, _, _, _, _, _, _, rfl, _⟩ := h; rfl) | (obtain ⟨_, _, _, _, _, _, _, _, _, _, _, _, _, _, _, _, _, _, _, _, _, _, rfl, _⟩ := h; rfl) | (obtain ⟨_, _, _, _, _, _, _, _, _, _, _, _, _, _, _, _, _, _, _, _, _, _, _, rfl, _⟩ := h; rfl)) (fun cdv A outer s H vs Q E hr tk pz h => ?_)
  have hu := hr.units
  have hrH := L2H.roomH_of hr
  obtain ⟨x, l, r, f, n, o, L, R, F, rfl, hO, hb, hi, hgo⟩ := h
  have hx := hO.1.1.choose_spec
  have n0 := hO.2.1
  have n1 := hO.2.2.1
  refine ⟨_, (pss_cons (ps_expr (pe_callA G_check_operation (Room.mono hr (by decide)) T.n_check_operation tk (pa_cons (pe_fld (pv 0) rfl) (pa_cons (pv 1) (pa_cons pe_int pa_nil)))))
      (pss_cons (ps_set (i := 2) sc_foreign_writes.nd rfl (Or.inl rfl) (pe_callB (b_abs) rfl T.b_abs (by decide +kernel) (pa_cons (pv 1) pa_nil)))
      (pss_cons (ps_if (pt_cmpA (o_ne hu) (pe_methS (pl := _) G_Links_operation_on (Room.mono hr (by decide)) T.cl_Links T.me_Links_operation_on tk (pv 0) (pa_cons (pv 2) pa_nil)) (pv 1) (nomark _)) (pss_one (L2N.ps_raise rfl tk (Lk.pmk_own T.x_Illegal (List.cons_ne_nil _ _) hr T.c_Illegal (by exact (pa_cons (pv 1) (pa_cons pe_int pa_nil))) rfl))) pss_nil)
      (pss_cons (ps_set (i := 3) sc_foreign_writes.nd rfl (Or.inl rfl) (pe_methS (pl := _) G_Links_left (Room.mono hr (by decide)) T.cl_Links T.me_Links_left tk (pv 0) (pa_cons (pv 2) pa_nil)))
      (pss_cons (ps_set (i := 4) sc_foreign_writes.nd rfl (Or.inl rfl) (pe_methS (pl := _) G_Links_right (Room.mono hr (by decide)) T.cl_Links T.me_Links_right tk (pv 0) (pa_cons (pv 2) pa_nil)))
      (pss_cons (ps_set (i := 5) sc_foreign_writes.nd rfl (Or.inl rfl) (pe_lst pa_nil))
      (pss_cut (ps_if (PW.pt (pw_and (pt_cmpA (o_ne hu) (pv 3) (pe_op op_sub (pv 2) pe_int) (nomark _)) (pw_and1 (pt_tru (pe_callA G_left_holds (Room.mono hr (by decide)) T.n_left_holds tk (pa_cons (pv 0) (pa_cons (pv 3) pa_nil))))))) (pss_one (ps_expr (pe_bm PySem.F.plainAttrs_list PySem.F.slot_list_append PySem.F.type_list_append mt_append (pv 5) (pa_cons (pv 3) pa_nil)))) pss_nil)
      (pss_cons (ps_if (PW.pt (pw_and (pt_cmpA (o_ne hu) (pv 4) (pe_op o_add (pv 2) pe_int) (nomark _)) (pw_and1 (pt_tru (pe_callA G_right_holds (Room.mono hr (by decide)) T.n_right_holds tk (pa_cons (pv 0) (pa_cons (pe_op op_sub (pv 4) pe_int) pa_nil))))))) (pss_one (ps_expr (pe_bm PySem.F.plainAttrs_list PySem.F.slot_list_append PySem.F.type_list_append mt_append (pv 5) (pa_cons (pe_op op_sub (pv 4) pe_int) pa_nil)))) pss_nil)
      (pss_one (ps_ret (pv 5))))))))))), ?_⟩
  show (_ : Ends → L2.St → Hp → Prop) _ [some _, some _, none, none, none, none] _
  try dsimp only [L2H.cxH, cxOf]
  walk_at "w"
  refine ⟨n, o, 0, rfl, hb, fun hop => ?_⟩
  have ho1 := hop.1
  have ho2 := hop.2
  walk_at "w"
  refine ⟨x, l, r, f, n, (o.natAbs : Int), L, R, F, rfl, hO, by omega, by omega, ?_⟩
  simp only [Int.toNat_natCast]
  walk_at "w"
  have cond : (if F.getD o.natAbs default = true then (o.natAbs : Int) else -(o.natAbs : Int)) = o ↔ F.getD o.natAbs default ≠ decide (o < 0) := by
    by_cases c1 : F.getD o.natAbs default = true
    · rw [if_pos c1, c1]
      by_cases c2 : o < 0
      · rw [show decide (o < 0) = true by simpa using c2]
        exact ⟨fun z => by omega, fun z => absurd rfl z⟩
      · rw [show decide (o < 0) = false by simpa using c2]
        exact ⟨fun _ => by decide, fun _ => by omega⟩
    · rw [if_neg c1, show F.getD o.natAbs default = false by simpa using c1]
      by_cases c2 : o < 0
      · rw [show decide (o < 0) = true by simpa using c2]
        exact ⟨fun _ => by decide, fun _ => by omega⟩
      · rw [show decide (o < 0) = false by simpa using c2]
        exact ⟨fun z => by omega, fun z => absurd rfl z⟩
  refine w_iteN (fun c => ?_) (fun c => ?_)
  · walk_at "w"
    refine ⟨rfl, fun d hd => hi hop ?_ d _ hd upd_same (Kp.refl.new hd)⟩
    by_cases z : F.getD o.natAbs default = decide (o < 0)
    · exact z
    · exact absurd (cond.mpr z) c
  · obtain ⟨b1, b2, b3, b4, k⟩ := hgo hop (cond.mp c)
    unfold frgF at k
    simp only [Int.toNat_natCast] at k
    walk_at "w"
    refine ⟨x, l, r, f, n, (o.natAbs : Int), L, R, F, rfl, hO.1, hO.2.2.2.1, fun z => absurd ⟨by omega, by omega⟩ z, fun _ _ => ?_⟩
    simp only [Int.toNat_natCast]
    walk_at "w"
    refine ⟨x, l, r, f, n, (o.natAbs : Int), L, R, F, rfl, hO.1, hO.2.2.2.2.1, fun z => absurd ⟨by omega, by omega⟩ z, fun _ _ => ?_⟩
    simp only [Int.toNat_natCast]
    walk_at "w"
    intro p hp
    have hxp : x ≠ p := ne_of_none hx hp
    have hp1 : upd H p (.lst []) p = some (.lst (([] : List Int).map V.int)) := upd_same
    have hk1 : Kp [] H (upd H p (.lst [])) := Kp.refl.new hp
    generalize upd H p (.lst []) = H1 at hp1 hk1
    walk_at "w"
    generalize L.getD o.natAbs default = lo at b1 b2 k ⊢
    generalize R.getD o.natAbs default = hi at b3 b4 k ⊢
    have hO1 := hO.kp0 hk1
    -- the second half, whatever the first has found
    have half : ∀ (us : List Int) (H2 : Hp), us.length ≤ 1 → us = (if lo ≠ (o.natAbs : Int) - 1 ∧ R.getD lo.toNat default = lo + 1 then [lo] else []) → H2 p = some (.lst (us.map V.int)) → Kp [] H H2 → ∀ us2, us2 = us ++ (if hi ≠ (o.natAbs : Int) + 1 ∧ L.getD hi.toNat default = hi - 1 then [hi - 1] else []) → ∀ H3, H3 p = some (.lst (us2.map V.int)) → Kp [] H H3 → Q (.ref p) H3 := by
      intro us H2 _ e _ _ us2 e2 H3 h3 k3
      rw [e2, e] at h3
      exact k p H3 hp k3 h3
    refine s_cut (fun σ' H' => Kp [] H H' ∧ H' p = some (.lst ((if lo ≠ (o.natAbs : Int) - 1 ∧ R.getD lo.toNat default = lo + 1 then [lo] else []).map V.int)) ∧ σ' = [some (.ref x), some (.int o), some (.int (o.natAbs : Int)), some (.int lo), some (.int hi), some (.ref p)]) ?_ ?_
    · walk_at "w"
      refine w_iteN (fun c1 => ?_) (fun c1 => ?_)
      · walk_at "w"
        refine ⟨x, l, r, f, n, lo, L, R, F, rfl, hO1, b1, b2, ?_⟩
        walk_at "w"
        refine w_ite (fun c2 => ?_) (fun c2 => ?_)
        · walk_at "w"
          rw [if_pos ⟨c1, c2⟩]
          exact ⟨hk1.own hp, upd_same, rfl⟩
        · walk_at "w"
          rw [if_neg (fun z => c2 z.2)]
          exact ⟨hk1, hp1, rfl⟩
      · walk_at "w"
        rw [if_neg (fun z => z.1 c1)]
        exact ⟨hk1, hp1, rfl⟩
    · rintro σ' H2 ⟨hk2, hp2, rfl⟩
      have hlen : (if lo ≠ (o.natAbs : Int) - 1 ∧ R.getD lo.toNat default = lo + 1 then [lo] else []).length ≤ 1 := by split <;> simp
      have hh := half _ H2 hlen rfl hp2 hk2
      generalize (if lo ≠ (o.natAbs : Int) - 1 ∧ R.getD lo.toNat default = lo + 1 then [lo] else []) = us at hp2 hlen hh
      have hO2 := hO.kp0 hk2
      walk_at "w"
      refine w_iteN (fun c1 => ?_) (fun c1 => ?_)
      · walk_at "w"
        refine ⟨x, l, r, f, n, hi - 1, L, R, F, rfl, hO2, by omega, by omega, ?_⟩
        rw [show hi - 1 + 1 = hi by omega]
        walk_at "w"
        refine w_ite (fun c2 => ?_) (fun c2 => ?_)
        · walk_at "w"
          exact hh _ (by rw [if_pos ⟨c1, c2⟩]) _ upd_same (hk2.own hp)
        · walk_at "w"
          exact hh us (by rw [if_neg (fun z => c2 z.2), List.append_nil]) H2 hp2 hk2
      · walk_at "w"
        exact hh us (by rw [if_neg (fun z => z.1 c1), List.append_nil]) H2 hp2 hk2

/-! ### runs of operations -/
def stS (s : List Int × List Int × List Bool) (o : Int) : List Int × List Int × List Bool := (apR s.2.1 s.1 o, apL s.2.1 s.1 o, apF s.2.2 o)
def runS (s : List Int × List Int × List Bool) (log : List Int) : List Int × List Int × List Bool := log.foldl stS s
def OkAt (n : Int) (s : List Int × List Int × List Bool) (o : Int) : Prop := IsOp n o ∧ s.2.2.getD o.natAbs default ≠ decide (o < 0)
def WFs (n : Int) (s : List Int × List Int × List Bool) : Prop := WF n s.1 s.2.1 s.2.2
def okTo (n : Int) (s : List Int × List Int × List Bool) (log : List Int) (i : Nat) : Prop := ∀ (j : Nat) (o : Int), j < i → log[j]? = some o → OkAt n (runS s (log.take j)) o
theorem runS_snoc (s : List Int × List Int × List Bool) (l : List Int) (o : Int) : runS s (l ++ [o]) = stS (runS s l) o := by
  unfold runS
  rw [List.foldl_append]; rfl
theorem runS_wf {n : Int} {s : List Int × List Int × List Bool} {log : List Int} (w : WFs n s) : ∀ i, i ≤ log.length → okTo n s log i → WFs n (runS s (log.take i))
  | 0, _, _ => w
  | i + 1, hi, h => by
    have hu : log[i]? = some log[i] := List.getElem?_eq_getElem (by omega)
    have ih := runS_wf w i (by omega) (fun j o hj => h j o (by omega))
    rw [take_snoc hu, runS_snoc]
    exact WF.ap ih (h i _ (by omega) hu).1
/-- what a run over the log asks -/
def playSp (a : AD) (n : Int) (s : List Int × List Int × List Bool) (log : List Int) (H : Hp) (E : XK) (k : Prop) : Prop :=
  (∀ (i : Nat) (o : Int), log[i]? = some o → okTo n s log i → ¬IsOp n o → xBadOperation a (.int o) (.int (i : Int)) E H) ∧
  (∀ (i : Nat) (o : Int), log[i]? = some o → okTo n s log i → IsOp n o → (runS s (log.take i)).2.2.getD o.natAbs default = decide (o < 0) → xIllegal a (.int o) (.int (i : Int)) E H) ∧
  (okTo n s log log.length → k)
def sp_play (a : AD) : Sp := fun vs H Q E => ∃ (x l r f pl : Addr) (n : Int) (s : List Int × List Int × List Bool) (log : List Int), vs = [.ref x, .ref pl] ∧ Lnk a H x l r f n s.2.1 (s.1 ++ [n + 2]) s.2.2 ∧ WFs n s ∧ H pl = some (.lst (log.map V.int)) ∧ log.length ≤ 100000 ∧
  playSp a n s log H E (newSp a n (runS s log).2.1 ((runS s log).1 ++ [n + 2]) (runS s log).2.2 H Q)

/-! ### a new list -/
theorem gd_app {us : List Int} {x : Int} {i : Nat} (h : i < us.length) : (us ++ [x]).getD i default = us.getD i default := by
  rw [List.getD_eq_getElem?_getD, List.getD_eq_getElem?_getD, List.getElem?_append_left h]
theorem tps_app {H : Hp} {p T : Addr} {xs vs : List V} {ts : List (List V)} (hp : H p = some (.lst xs)) (h : Tps H xs ts) (hT : H T = none) : Tps (upd (upd H T (.tup vs)) p (.lst (xs ++ [.ref T]))) (xs ++ [.ref T]) (ts ++ [vs]) :=
  Tps.snoc ((h.new hT).mut (upd_new hT hp)) (upd_get (Ne.symm (ne_of_none hp hT)) upd_same)
theorem nm_sub {g : Addr} {xs ys : List Addr} (h : g ∉ ys) (s : ∀ z ∈ xs, z ∈ ys) : g ∉ xs := fun z => h (s _ z)
theorem nm_swap {q : Addr} {xs : List Addr} (h : q ∉ xs) : ∀ y ∈ xs, y ∉ [q] := fun y hy z => h (by rw [List.mem_singleton.mp z] at hy; exact hy)
/-- one fresh address is none of those that stand -/
theorem nm_of {H : Hp} {q : Addr} {ys : List Addr} (h : H q = none) (live : ∀ y ∈ ys, ∃ o, H y = some o) : q ∉ ys := fun z => by
  obtain ⟨o, e⟩ := live q z
  rw [h] at e; cases e
theorem rgI_l0 (n : Int) : rgI (-1) (n + 1) = l0 n := by
  unfold rgI l0
  rw [show (n + 1 - -1).toNat = (n + 2).toNat by omega]
  exact List.map_congr_left fun i _ => by omega
theorem rgI_r0 {n : Int} (n0 : 0 ≤ n) : rgI 1 (n + 3) = r0 n ++ [n + 2] := by
  unfold rgI r0
  rw [show (n + 3 - 1).toNat = (n + 1).toNat + 1 by omega, List.range_succ, List.map_append]
  refine congr (congrArg _ ?_) ?_
  · exact List.map_congr_left fun i _ => by omega
  · simp; omega
def s0 (n : Int) : List Int × List Int × List Bool := (r0 n, l0 n, List.replicate (n + 2).toNat false)
theorem wfs0 {n : Int} (n0 : 0 ≤ n) (n1 : n ≤ 60) : WFs n (s0 n) := wf0 n0 n1
/-- the object at x bears the standing s -/
def LkS (a : AD) (H : Hp) (x l r f : Addr) (n : Int) (s : List Int × List Int × List Bool) : Prop := Lnk a H x l r f n s.2.1 (s.1 ++ [n + 2]) s.2.2
theorem LkS.kp0 {a : AD} {H H' : Hp} {x l r f : Addr} {n : Int} {s : List Int × List Int × List Bool} (h : LkS a H x l r f n s) (k : Kp [] H H') : LkS a H' x l r f n s := Lnk.kp0 h k
theorem LkS.obj {a : AD} {H : Hp} {x l r f : Addr} {n : Int} {s : List Int × List Int × List Bool} (h : LkS a H x l r f n s) (W : WFs n s) : Obj a H x l r f n s.2.1 (s.1 ++ [n + 2]) s.2.2 :=
  ⟨h, WF.n0 W, WF.n1 W, WF.hL W, by rw [List.length_append, WF.hR W]; have := WF.n0 W; simp; omega, WF.hF W⟩
/-- what `Links(size)` asks -/
theorem mk_new {a : AD} {n : Int} {H : Hp} {Q : Addr → Hp → Prop} {E : XK} (hb : ¬(0 ≤ n ∧ n ≤ 60) → xBadSize a (.int n) E H) (k : 0 ≤ n → n ≤ 60 → ∀ (x l r f : Addr) (H' : Hp), H x = none → H l = none → H r = none → H f = none → LkS a H' x l r f n (s0 n) → Kp [] H H' → Q x H') :
    ∀ x dx, H x = none → H dx = none → dx ≠ x → sp_Links___init__ a (.ref x :: [.int n]) (upd (upd H dx (.own x)) x (.ins a.Links dx [])) (fun v H2 => v = .non ∧ Q x H2) E := by
  intro x dx hx hdx hne
  have kx : Kp [] H (upd (upd H dx (.own x)) x (.ins a.Links dx [])) := (Kp.refl.new hdx).own hx
  have fr : ∀ p, upd (upd H dx (.own x)) x (.ins a.Links dx []) p = none → H p = none := fun p h => kx.free h
  refine ⟨x, dx, n, rfl, upd_same, fun z d H' h1 h2 h3 => hb z d H' (fr d h1) h2 (kx.trans h3), fun n0 n1 l r f H1 hl hr hf hL k1 => ⟨rfl, ?_⟩⟩
  rw [rgI_l0, rgI_r0 n0] at hL
  have k0 : Kp [] H H1 := fun b o e _ => k1 b o (kx.at0 e) (by simp; intro z; subst z; rw [hx] at e; cases e)
  exact k n0 n1 x l r f H1 hx (fr l hl) (fr r hr) (fr f hf) hL k0
/-- one more operation of a log, on the object -/
theorem ap_step {a : AD} {H : Hp} {Q : VK} {E : XK} {x l r f : Addr} {n : Int} {s t : List Int × List Int × List Bool} {log : List Int} {i : Nat} {o : Int} (W : WFs n t) (hu : log[i]? = some o) (hok : okTo n t log i) (e : s = runS t (log.take i)) (hil : i ≤ log.length) (h : LkS a H x l r f n s)
    (hb : ¬IsOp n o → xBadOperation a (.int o) (.int (i : Int)) E H) (hi : IsOp n o → s.2.2.getD o.natAbs default = decide (o < 0) → xIllegal a (.int o) (.int (i : Int)) E H)
    (k : OkAt n s o → WFs n s → okTo n t log (i + 1) → ∀ H', LkS a H' x l r f n (stS s o) → Kp [l, r, f] H H' → Q .non H') : sp_Links_apply_at a [.ref x, .int o, .int (i : Int)] H Q E := by
  have Wi : WFs n s := e ▸ runS_wf W i hil hok
  have n0 := WF.n0 Wi
  have hR := WF.hR Wi
  have hL := WF.hL Wi
  refine ⟨x, l, r, f, n, o, i, _, _, _, rfl, h, hL, by rw [List.length_append, hR]; simp; omega, WF.hF Wi, hb, hi, fun hop hfl => ?_⟩
  have ho1 := hop.1
  have ho2 := hop.2
  have qa := WF.at Wi (v := o.natAbs) (by omega) ho2
  have eR : (s.1 ++ [n + 2]).getD o.natAbs default = s.1.getD o.natAbs default := by
    rw [List.getD_eq_getElem?_getD, List.getD_eq_getElem?_getD, List.getElem?_append_left (by omega)]
  refine ⟨by omega, by omega, by omega, by omega, fun H2 hY k2 => ?_⟩
  have ea := ap_app Wi (x := n + 2) hop
  rw [ea.1, ea.2] at hY
  refine k ⟨hop, hfl⟩ Wi (fun j p hj hp => ?_) H2 hY k2
  by_cases z : j < i
  · exact hok j p z hp
  · obtain rfl : j = i := by omega
    rw [hu] at hp
    cases hp
    rw [← e]
    exact ⟨hop, hfl⟩
/-- changes of a new object are none to the rest -/
theorem kp_new3 {H H1 H2 : Hp} {l r f : Addr} (k1 : Kp [] H H1) (hl : H l = none) (hr : H r = none) (hf : H f = none) (k2 : Kp [l, r, f] H1 H2) : Kp [] H H2 := fun b o e _ => k2 b o (k1.at0 e) (by
  intro z
  simp only [List.mem_cons, List.mem_nil_iff, or_false] at z
  rcases z with rfl | rfl | rfl
  · rw [hl] at e; cases e
  · rw [hr] at e; cases e
  · rw [hf] at e; cases e)

/-! ### sound, whole -/
def sp_Links_outs (a : AD) : Sp := fun vs H Q E => ∃ (x l r f : Addr) (n : Int) (s : List Int × List Int × List Bool), vs = [.ref x] ∧ LkS a H x l r f n s ∧ WFs n s ∧ ∀ p H', H p = none → Kp [] H H' → H' p = some (.lst ((outL n s.2.2).map V.int)) → Q (.ref p) H'
theorem outL_nil {n : Int} {F : List Bool} : outL n F = [] ↔ ∀ v : Nat, 1 ≤ v → (v : Int) ≤ n → F.getD v default = false := by
  constructor
  · intro h v v1 v2
    cases c : F.getD v default with
    | false => rfl
    | true =>
      have : (v : Int) ∈ outL n F := by
        unfold outL
        rw [List.mem_filterMap]
        refine ⟨v - 1, List.mem_range.mpr (by omega), ?_⟩
        rw [show v - 1 + 1 = v by omega, if_pos c]
        congr 1; omega
      rw [h] at this
      exact absurd this List.not_mem_nil
  · intro h
    unfold outL
    rw [List.filterMap_eq_nil_iff]
    intro i hi
    have hi := List.mem_range.mp hi
    rw [if_neg (by rw [h (i + 1) (by omega) (by omega)]; exact Bool.false_ne_true)]
theorem state_joined {R L : List Int} {g : Int} : stateOf R L g = ("joined" : Str) ↔ R.getD g.toNat default = g + 1 ∧ L.getD (g + 1).toNat default = g := by
  unfold stateOf
  by_cases c1 : R.getD g.toNat default = g + 1
  · rw [if_pos c1]
    by_cases c2 : L.getD (g + 1).toNat default = g
    · rw [if_pos c2]; exact ⟨fun _ => ⟨c1, c2⟩, fun _ => rfl⟩
    · rw [if_neg c2]; exact ⟨fun h => absurd h (by decide), fun h => absurd h.2 c2⟩
  · rw [if_neg c1]
    by_cases c2 : L.getD (g + 1).toNat default = g
    · rw [if_pos c2]; exact ⟨fun h => absurd h (by decide), fun h => absurd h.1 c1⟩
    · rw [if_neg c2]; exact ⟨fun h => absurd h (by decide), fun h => absurd h.1 c1⟩

/-! ### sound, of any standing -/
/-- the last node that is in, and whether all is sound so far -/
def sndK (R L : List Int) (F : List Bool) : Nat → Int × Bool
  | 0 => (0, true)
  | k + 1 => if F.getD (k + 1) default = true then sndK R L F k else ((k : Int) + 1, (sndK R L F k).2 && (decide (R.getD (sndK R L F k).1.toNat default = (k : Int) + 1) && decide (L.getD (k + 1) default = (sndK R L F k).1)))
def soundB (n : Int) (R L : List Int) (F : List Bool) : Bool := (sndK R L F (n + 1).toNat).2
theorem sndK_mono (R L : List Int) (F : List Bool) {j k : Nat} (h : j ≤ k) (e : (sndK R L F j).2 = false) : (sndK R L F k).2 = false := by
  induction k with
  | zero =>
    obtain rfl : j = 0 := by omega
    exact e
  | succ k ih =>
    by_cases z : j = k + 1
    · rw [← z]; exact e
    · have := ih (by omega)
      unfold sndK
      split
      · exact this
      · simp [this]
theorem sndK_le (R L : List Int) (F : List Bool) : ∀ k : Nat, 0 ≤ (sndK R L F k).1 ∧ (sndK R L F k).1 ≤ (k : Int)
  | 0 => ⟨Int.le_refl 0, Int.le_refl 0⟩
  | k + 1 => by
    have := sndK_le R L F k
    unfold sndK
    split
    · exact ⟨this.1, by omega⟩
    · exact ⟨by show (0 : Int) ≤ (k : Int) + 1; omega, by show (k : Int) + 1 ≤ ((k + 1 : Nat) : Int); omega⟩
theorem sndK_in (R L : List Int) (F : List Bool) : ∀ k : Nat, (∀ v : Nat, 1 ≤ v → v ≤ k → F.getD v default = false) → (sndK R L F k).1 = (k : Int) ∧ ((sndK R L F k).2 = true ↔ ∀ i : Nat, i < k → R.getD i default = (i : Int) + 1 ∧ L.getD (i + 1) default = (i : Int))
  | 0, _ => ⟨rfl, fun _ i hi => by omega, fun _ => rfl⟩
  | k + 1, h => by
    obtain ⟨h1, h2⟩ := sndK_in R L F k fun v a b => h v a (by omega)
    have hf := h (k + 1) (by omega) (by omega)
    unfold sndK
    rw [if_neg (by rw [hf]; exact Bool.false_ne_true), h1]
    refine ⟨by show (k : Int) + 1 = ((k + 1 : Nat) : Int); omega, ?_⟩
    show ((sndK R L F k).2 && (decide (R.getD (k : Int).toNat default = (k : Int) + 1) && decide (L.getD (k + 1) default = (k : Int)))) = true ↔ _
    rw [Bool.and_eq_true, Bool.and_eq_true, decide_eq_true_iff, decide_eq_true_iff, h2, Int.toNat_natCast]
    constructor
    · rintro ⟨a, b⟩ i hi
      by_cases z : i < k
      · exact a i z
      · obtain rfl : i = k := by omega
        exact b
    · intro a
      exact ⟨fun i hi => a i (by omega), a k (by omega)⟩
theorem whole_eq {n : Int} {R L : List Int} {F : List Bool} (W : WF n R L F) : (∀ i : Nat, (i : Int) ≤ n → F.getD i default = false ∧ R.getD i default = (i : Int) + 1 ∧ L.getD (i + 1) default = (i : Int)) ↔ (outL n F = [] ∧ soundB n R L F = true) := by
  have n0 := W.n0
  rw [outL_nil]
  constructor
  · intro h
    have hf : ∀ v : Nat, 1 ≤ v → v ≤ (n + 1).toNat → F.getD v default = false := fun v a b => by
      by_cases z : (v : Int) ≤ n
      · exact (h v z).1
      · rw [show v = (n + 1).toNat by omega]; exact W.f1
    refine ⟨fun v a b => (h v b).1, ?_⟩
    exact (sndK_in R L F _ hf).2.mpr fun i hi => (h i (by omega)).2
  · rintro ⟨h1, h2⟩ i hi
    have hf : ∀ v : Nat, 1 ≤ v → v ≤ (n + 1).toNat → F.getD v default = false := fun v a b => by
      by_cases z : (v : Int) ≤ n
      · exact h1 v a z
      · rw [show v = (n + 1).toNat by omega]; exact W.f1
    refine ⟨?_, (sndK_in R L F _ hf).2.mp h2 i (by omega)⟩
    by_cases z : i = 0
    · rw [z]; exact W.f0
    · exact h1 i (by omega) hi
theorem snd_step {n : Int} {R L : List Int} {F : List Bool} {i : Nat} (hf : F.getD (i + 1) default = false) : sndK R L F (i + 1) = ((i : Int) + 1, (sndK R L F i).2 && (decide (R.getD (sndK R L F i).1.toNat default = (i : Int) + 1) && decide (L.getD (i + 1) default = (sndK R L F i).1))) := by
  conv => lhs; unfold sndK
  rw [if_neg (by rw [hf]; exact Bool.false_ne_true)]
theorem snd_skip {R L : List Int} {F : List Bool} {i : Nat} (hf : F.getD (i + 1) default = true) : sndK R L F (i + 1) = sndK R L F i := by
  conv => lhs; unfold sndK
  rw [if_pos hf]
theorem WF.rg {n : Int} {R L : List Int} {F : List Bool} (W : WF n R L F) {j : Nat} (h : (j : Int) ≤ n) : (j : Int) < R.getD j default ∧ R.getD j default ≤ n + 1 := W.r j _ (getD_some (by rw [W.hR]; omega))
theorem WF.lg {n : Int} {R L : List Int} {F : List Bool} (W : WF n R L F) {j : Nat} (h1 : 1 ≤ j) (h2 : (j : Int) ≤ n + 1) : 0 ≤ L.getD j default ∧ L.getD j default < (j : Int) := W.l j _ h1 (getD_some (by rw [W.hL]; omega))

/-! ### the modes -/
abbrev St3' := List Int × List Int × List Bool
def lowOf (s : St3') (v : Int) : Int := s.2.1.getD v.toNat default
def highOf (s : St3') (v : Int) : Int := s.1.getD v.toNat default
/-- the left side holds the gap, the right side holds it -/
def lho (s : St3') (g : Int) : Prop := s.1.getD g.toNat default = g + 1
def rho (s : St3') (g : Int) : Prop := s.2.1.getD (g + 1).toNat default = g
instance (s : St3') (g : Int) : Decidable (lho s g) := inferInstanceAs (Decidable (_ = _))
instance (s : St3') (g : Int) : Decidable (rho s g) := inferInstanceAs (Decidable (_ = _))
def inn (s : St3') (v : Int) : Prop := s.2.2.getD v.toNat default = false
instance (s : St3') (v : Int) : Decidable (inn s v) := inferInstanceAs (Decidable (_ = _))
/-- the two foreign writes -/
def fwA (s : St3') (v : Int) : Prop := lowOf s v ≠ v - 1 ∧ lho s (lowOf s v)
def fwB (s : St3') (v : Int) : Prop := highOf s v ≠ v + 1 ∧ rho s (highOf s v - 1)
instance (s : St3') (v : Int) : Decidable (fwA s v) := inferInstanceAs (Decidable (_ ∧ _))
instance (s : St3') (v : Int) : Decidable (fwB s v) := inferInstanceAs (Decidable (_ ∧ _))
def hldA (s : St3') (v : Int) : List V := if fwA s v then [if rho s (lowOf s v) then .int (lowOf s v + 1) else .non] else []
def hldB (s : St3') (v : Int) : List V := if fwB s v then [if lho s (highOf s v - 1) then .int (highOf s v - 1) else .non] else []
def losesP (s : St3') (v : Int) : Prop := (fwA s v ∧ ¬rho s (lowOf s v)) ∨ (fwB s v ∧ ¬lho s (highOf s v - 1))
def solesP (s : St3') (v : Int) : Prop := (fwA s v ∧ (¬rho s (lowOf s v) ∨ inn s (lowOf s v + 1))) ∨ (fwB s v ∧ (¬lho s (highOf s v - 1) ∨ inn s (highOf s v - 1)))
def localP (s : St3') (o : Int) : Prop := inn s (lowOf s o.natAbs) ∧ inn s (highOf s o.natAbs) ∧
  (if o < 0 then s.1.getD (lowOf s o.natAbs).toNat default = (o.natAbs : Int) ∧ s.2.1.getD (highOf s o.natAbs).toNat default = (o.natAbs : Int) else s.1.getD (lowOf s o.natAbs).toNat default = highOf s o.natAbs ∧ s.2.1.getD (highOf s o.natAbs).toNat default = lowOf s o.natAbs)
instance (s : St3') (v : Int) : Decidable (losesP s v) := inferInstanceAs (Decidable (_ ∨ _))
instance (s : St3') (v : Int) : Decidable (solesP s v) := inferInstanceAs (Decidable (_ ∨ _))
instance (s : St3') (o : Int) : Decidable (localP s o) := inferInstanceAs (Decidable (_ ∧ _))
def wordM : Nat → Str
  | 0 => "free"
  | 1 => "saving"
  | 2 => "guarded"
  | _ => "checked"
/-- the refusing mode, or the empty text -/
def refM (s : St3') (o : Int) : Nat → Str
  | 0 => ""
  | 1 => if losesP s o.natAbs then "saving" else ""
  | 2 => if losesP s o.natAbs then "saving" else if solesP s o.natAbs then "guarded" else ""
  | _ => if losesP s o.natAbs then "saving" else if solesP s o.natAbs then "guarded" else if localP s o then "" else "checked"
def clsM (a : AD) : Nat → Addr
  | 0 => a.FreeMode
  | 1 => a.SavingMode
  | 2 => a.GuardedMode
  | _ => a.CheckedMode
/-- is the operation legal, at place i -/
def legSp (a : AD) (n o i : Int) (F : List Bool) (H : Hp) (E : XK) (k : Prop) : Prop := (¬IsOp n o → xBadOperation a (.int o) (.int i) E H) ∧ (IsOp n o → F.getD o.natAbs default = decide (o < 0) → xIllegal a (.int o) (.int i) E H) ∧ (IsOp n o → F.getD o.natAbs default ≠ decide (o < 0) → k)
theorem op_on {F : List Bool} {o : Int} (ho : o ≠ 0) : (if F.getD o.natAbs default = true then (o.natAbs : Int) else -(o.natAbs : Int)) = o ↔ F.getD o.natAbs default ≠ decide (o < 0) := by
  by_cases c1 : F.getD o.natAbs default = true
  · rw [if_pos c1, c1]
    by_cases c2 : o < 0
    · rw [show decide (o < 0) = true by simpa using c2]
      exact ⟨fun z => by omega, fun z => absurd rfl z⟩
    · rw [show decide (o < 0) = false by simpa using c2]
      exact ⟨fun _ => by decide, fun _ => by omega⟩
  · rw [if_neg c1, show F.getD o.natAbs default = false by simpa using c1]
    by_cases c2 : o < 0
    · rw [show decide (o < 0) = true by simpa using c2]
      exact ⟨fun _ => by decide, fun _ => by omega⟩
    · rw [show decide (o < 0) = false by simpa using c2]
      exact ⟨fun z => by omega, fun z => absurd rfl z⟩
def sp__check_legal (a : AD) : Sp := fun vs H Q E => ∃ (x l r f : Addr) (n o i : Int) (s : St3'), vs = [.ref x, .int o, .int i] ∧ LkS a H x l r f n s ∧ WFs n s ∧ legSp a n o i s.2.2 H E (Q .non H)
theorem sc__check_legal : FnScope ["links", "operation", "index"] ["links", "operation", "index"] (defScope s__check_legal) := ⟨rfl, rfl, rfl, by decide +kernel, rfl, by decide +kernel, by decide +kernel⟩
theorem ok__check_legal {P : Program} {w : World} {K : PySem.W.Frag} {mg : Str → Option Value} {base : Heap} {a : AD} (T : Txt P K mg a) (G_check_operation : FnA P w K mg base 2 a.f_check_operation ["size", "operation", "index"] (sp_check_operation a)) (G_Links_operation_on : FnA P w K mg base 2 a.f_Links_operation_on ["self", "node"] (sp_Links_operation_on a)) : FnA P w K mg base 3 a.f__check_legal ["links", "operation", "index"] (sp__check_legal a) := by
  obtain ⟨fd, F, b⟩ := T.F__check_legal
  refine FnA.of F sc__check_legal b (fun vs H Q E h => by first | (obtain ⟨rfl, _⟩ := h; rfl) | (obtain ⟨_, rfl, _⟩ := h; rfl) | (obtain ⟨_, _, rfl, _⟩ := h; rfl) | (obtain ⟨_, _, _, rfl, _⟩ := h; rfl) | (obtain ⟨_, _, _, _, rfl, _⟩ := h; rfl) | (obtain ⟨_, _, _, _, _, rfl, _⟩ := h; rfl) | (obtain ⟨_, _, _, _, _, _, rfl, _⟩ := h; rfl) | (obtain ⟨_, _, _, _, _, _, _, rfl, _⟩ := h; rfl) | (obtain ⟨_, _, _, _, _, _, _, _, rfl, _⟩ := h; rfl) | (obtain ⟨_, _, _, _, _, _, _, _, _, rfl, _⟩ := h; rfl) | (obtain ⟨_, _, _, _, _, _, _, _, _, _, rfl, _⟩ := h; rfl) | (obtain ⟨_, _, _, _, _, _, _, _, _, _, _, rfl, _⟩ := h; rfl) | (obtain ⟨_, _, _, _, _, _, _, _, _, _, _, _, rfl, _⟩ := h; rfl) | (obtain ⟨_, _, _, _, _, _, _, _, _, _, _, _, _, rfl, _⟩ := h; rfl) | (obtain ⟨_, _, _, _, _, _, _, _, _, _, _, _, _, _, rfl, _⟩ := h; rfl) | (obtain ⟨_, _, _, _, _, _, _, _, _, _, _, _, _, _, _, rfl, _⟩ := h; rfl) | (obtain ⟨_, _, _, _, _, _, _, _, _, _, _, _, _, _, _, _, rfl, _⟩ := h; rfl) | (obtain ⟨_, _, _, _, _, _, _, _, _, _, _, _, _, _, _, _, _, rfl, _⟩ := h; rfl) | (obtain ⟨_, _, _, _, _, _, _, _, _, _, _, _, _, _, _, _, _, _, rfl, _⟩ := h; rfl) | (obtain ⟨_, _, _, _, _, _, _, _, _, _, _, _, _, _, _, _, _, _, _, rfl, _⟩ := h; rfl) | (obtain ⟨_, _, _, _, _, _, _, _, _, _, _, _, _, _, _, _, _, _, _, _, rfl, _⟩ := h; rfl) | (obtain ⟨_, _, _, _, _, _, _, _, _, _, _, _, _, _, _, _, _, _, _, _, _, rfl, _⟩ := h; rfl) | (obtain ⟨_, _, _, _, _, _, _, _, _, _, _, _, _, _, _, _, _, _, _, _, _, _, rfl, _⟩ := h; rfl) | (obtain ⟨_, _, _, _, _, _, _, _, _, _, _, _, _, _, _, _, _, _, _, _, _, _, _, rfl, _⟩ := h; rfl)) (fun cdv A outer s H vs Q E hr tk pz h => ?_)
  have hu := hr.units
  have hrH := L2H.roomH_of hr
  obtain ⟨x, l, r, f, n, o, i, s3, rfl, hL, W, h1, h2, h3⟩ := h
  refine ⟨_, (pss_cons (ps_expr (pe_callA G_check_operation (Room.mono hr (by decide)) T.n_check_operation tk (pa_cons (pe_fld (pv 0) rfl) (pa_cons (pv 1) (pa_cons (pv 2) pa_nil)))))
      (pss_one (ps_if (pt_cmpA (o_ne hu) (pv 1) (pe_methS (pl := _) G_Links_operation_on (Room.mono hr (by decide)) T.cl_Links T.me_Links_operation_on tk (pv 0) (pa_cons (pe_callB (b_abs) rfl T.b_abs (by decide +kernel) (pa_cons (pv 1) pa_nil)) pa_nil)) (nomark _)) (pss_one (L2N.ps_raise rfl tk (Lk.pmk_own T.x_Illegal (List.cons_ne_nil _ _) hr T.c_Illegal (by exact (pa_cons (pv 1) (pa_cons (pv 2) pa_nil))) rfl))) pss_nil))), ?_⟩
  show (_ : Ends → L2.St → Hp → Prop) _ [some _, some _, some _] _
  try dsimp only [L2H.cxH, cxOf]
  have hO := hL.obj W
  obtain ⟨⟨dx, hx⟩, _⟩ := id hL
  walk_at "w"
  refine ⟨n, o, i, rfl, h1, fun hop => ?_⟩
  have ho1 := hop.1
  have ho2 := hop.2
  walk_at "w"
  refine ⟨x, l, r, f, n, (o.natAbs : Int), _, _, _, rfl, hO, by omega, by omega, ?_⟩
  simp only [Int.toNat_natCast]
  walk_at "w"
  refine w_iteN (fun c => ?_) (fun c => ?_)
  · walk_at "w"
    refine ⟨rfl, fun d hd => h2 hop ?_ d _ hd upd_same (Kp.refl.new hd)⟩
    by_cases z : s3.2.2.getD o.natAbs default = decide (o < 0)
    · exact z
    · exact absurd ((op_on ho1).mpr z).symm c
  · walk_at "w"
    exact h3 hop ((op_on ho1).mp c.symm)
theorem st_lo {n : Int} {s : St3'} (W : WFs n s) {v : Int} (v1 : 1 ≤ v) (v2 : v ≤ n) : 0 ≤ lowOf s v ∧ lowOf s v < v ∧ v < highOf s v ∧ highOf s v ≤ n + 1 := by
  have q := WF.at W (v := v.toNat) (by omega) (by omega)
  unfold lowOf highOf
  omega
theorem st_app {n : Int} {s : St3'} (W : WFs n s) {g : Int} (h1 : g ≤ n) : (s.1 ++ [n + 2]).getD g.toNat default = s.1.getD g.toNat default := gd_app (by rw [WF.hR W]; have := WF.n0 W; omega)
def sp__last_holders (a : AD) : Sp := fun vs H Q E => ∃ (x l r f : Addr) (n o : Int) (s : St3'), vs = [.ref x, .int o] ∧ LkS a H x l r f n s ∧ WFs n s ∧ OkAt n s o ∧ ∀ p H', H p = none → Kp [] H H' → H' p = some (.lst (hldA s o.natAbs ++ hldB s o.natAbs)) → Q (.ref p) H'
theorem ite_iff {α : Type} {p q : Prop} [Decidable p] [Decidable q] {x y : α} (h : p ↔ q) : (if p then x else y) = if q then x else y := by
  by_cases c : p
  · rw [if_pos c, if_pos (h.mp c)]
  · rw [if_neg c, if_neg (fun z => c (h.mpr z))]
theorem frg_eq {n : Int} {s : St3'} (W : WFs n s) {v : Int} (v1 : 1 ≤ v) (v2 : v ≤ n) : frgF (s.1 ++ [n + 2]) s.2.1 v = (if fwA s v then [lowOf s v] else []) ++ (if fwB s v then [highOf s v - 1] else []) := by
  have q := st_lo W v1 v2
  unfold frgF
  rw [st_app W v2]
  have e1 : (s.1 ++ [n + 2]).getD (s.2.1.getD v.toNat default).toNat default = s.1.getD (s.2.1.getD v.toNat default).toNat default := st_app W (by unfold lowOf at q; omega)
  rw [e1]
  have e2 : s.2.1.getD (highOf s v - 1 + 1).toNat default = s.2.1.getD (highOf s v).toNat default := by rw [show highOf s v - 1 + 1 = highOf s v by omega]
  congr 1
  refine ite_iff ?_
  unfold fwB rho
  rw [e2]
  exact Iff.rfl
theorem sc__last_holders : FnScope ["links", "operation", "before", "holders", "gap"] ["links", "operation"] (defScope s__last_holders) := ⟨rfl, rfl, rfl, by decide +kernel, rfl, by decide +kernel, by decide +kernel⟩
theorem ok__last_holders {P : Program} {w : World} {K : PySem.W.Frag} {mg : Str → Option Value} {base : Heap} {a : AD} (T : Txt P K mg a) (G_Links_left : FnA P w K mg base 2 a.f_Links_left ["self", "node"] (sp_Links_left a)) (G_foreign_writes : FnA P w K mg base 4 a.f_foreign_writes ["links", "operation"] (sp_foreign_writes a)) (G_right_holds : FnA P w K mg base 3 a.f_right_holds ["links", "gap"] (sp_right_holds a)) (G_left_holds : FnA P w K mg base 3 a.f_left_holds ["links", "gap"] (sp_left_holds a)) : FnA P w K mg base 5 a.f__last_holders ["links", "operation"] (sp__last_holders a) := by
  obtain ⟨fd, F, b⟩ := T.F__last_holders
  refine FnA.of F sc__last_holders b (fun vs H Q E h => by first | (obtain ⟨rfl, _⟩ := h; rfl) | (obtain ⟨_, rfl, _⟩ := h; rfl) | (obtain ⟨_, _, rfl, _⟩ := h; rfl) | (obtain ⟨_, _, _, rfl, _⟩ := h; rfl) | (obtain ⟨_, _, _, _, rfl, _⟩ := h; rfl) | (obtain ⟨_, _, _, _, _, rfl, _⟩ := h; rfl) | (obtain ⟨_, _, _, _, _, _, rfl, _⟩ := h; rfl) | (obtain ⟨_, _, _, _, _, _, _, rfl, _⟩ := h; rfl) | (obtain ⟨_, _, _, _, _, _, _, _, rfl, _⟩ := h; rfl) | (obtain ⟨_, _, _, _, _, _, _, _, _, rfl, _⟩ := h; rfl) | (obtain ⟨_, _, _, _, _, _, _, _, _, _, rfl, _⟩ := h; rfl) | (obtain ⟨_, _, _, _, _, _, _, _, _, _, _, rfl, _⟩ := h; rfl) | (obtain ⟨_, _, _, _, _, _, _, _, _, _, _, _, rfl, _⟩ := h; rfl) | (obtain ⟨_, _, _, _, _, _, _, _, _, _, _, _, _, rfl, _⟩ := h; rfl) | (obtain ⟨_, _, _, _, _, _, _, _, _, _, _, _, _, _, rfl, _⟩ := h; rfl) | (obtain ⟨_, _, _, _, _, _, _, _, _, _, _, _, _, _, _, rfl, _⟩ := h; rfl) | (obtain ⟨_, _, _, _, _, _, _, _, _, _, _, _, _, _, _, _, rfl, _⟩ := h; rfl) | (obtain ⟨_, _, _, _, _, _, _, _, _, _, _, _, _, _, _, _, _, rfl, _⟩ := h; rfl) | (obtain ⟨_, _, _, _, _, _, _, _, _, _, _, _, _, _, _, _, _, _, rfl, _⟩ := h; rfl) | (obtain ⟨_, _, _, _, _, _, _, _, _, _, _, _, _, _, _, _, _, _, _, rfl, _⟩ := h; rfl) | (obtain ⟨_, _, _, _, _, _, _, _, _, _, _, _, _, _, _, _, _, _, _, _, rfl, _⟩ := h; rfl) | (obtain ⟨_, _, _, _, _, _, _, _, _, _, _, _, _, _, _, _, _, _, _, _, _, rfl, _⟩ := h; rfl) | (obtain ⟨_, _, _, _, _, _, _, _, _, _, _, _, _, _, _, _, _, _, _, _, _, _, rfl, _⟩ := h; rfl) | (obtain ⟨_, _, _, _, _, _, _, _, _, _, _, _, _, _, _, _, _, _, _, _, _, _, _, rfl, _⟩ := h; rfl)) (fun cdv A outer s H vs Q E hr tk pz h => ?_)
  have hu := hr.units
  have hrH := L2H.roomH_of hr
  obtain ⟨x, l, r, f, n, o, s3, rfl, hL, W, hok, k⟩ := h
  refine ⟨_, (pss_cons (ps_set (i := 2) sc__last_holders.nd rfl (Or.inl rfl) (pe_methS (pl := _) G_Links_left (Room.mono hr (by decide)) T.cl_Links T.me_Links_left tk (pv 0) (pa_cons (pe_callB (b_abs) rfl T.b_abs (by decide +kernel) (pa_cons (pv 1) pa_nil)) pa_nil)))
      (pss_cons (ps_set (i := 3) sc__last_holders.nd rfl (Or.inl rfl) (pe_lst pa_nil))
      (pss_cons (ps_for pz rfl (pi_list (pe_callA G_foreign_writes (Room.mono hr (by decide)) T.n_foreign_writes tk (pa_cons (pv 0) (pa_cons (pv 1) pa_nil)))) (pg_name (i := 4) sc__last_holders.nd rfl (Or.inl rfl))
      (pss_one (ps_if (pt_cmpA (o_eq hu) (pv 4) (pv 2) (nomark _)) (pss_one (ps_expr (pe_bm PySem.F.plainAttrs_list PySem.F.slot_list_append PySem.F.type_list_append mt_append (pv 3) (pa_cons (pe_ifExp (pt_tru (pe_callA G_right_holds (Room.mono hr (by decide)) T.n_right_holds tk (pa_cons (pv 0) (pa_cons (pv 4) pa_nil)))) (pe_op o_add (pv 4) pe_int) pe_non) pa_nil)))) (pss_one (ps_expr (pe_bm PySem.F.plainAttrs_list PySem.F.slot_list_append PySem.F.type_list_append mt_append (pv 3) (pa_cons (pe_ifExp (pt_tru (pe_callA G_left_holds (Room.mono hr (by decide)) T.n_left_holds tk (pa_cons (pv 0) (pa_cons (pv 4) pa_nil)))) (pv 4) pe_non) pa_nil)))))))
      (pss_one (ps_ret (pv 3)))))), ?_⟩
  show (_ : Ends → L2.St → Hp → Prop) _ [some _, some _, none, none, none] _
  try dsimp only [L2H.cxH, cxOf]
  have hO := hL.obj W
  obtain ⟨⟨dx, hx⟩, _⟩ := id hL
  obtain ⟨hop, hne⟩ := hok
  have ho1 := hop.1
  have ho2 := hop.2
  have n0 := WF.n0 W
  have q := st_lo W (v := o.natAbs) (by omega) ho2
  have ql : s3.2.1.getD o.natAbs default = lowOf s3 o.natAbs := rfl
  walk_at "w"
  refine ⟨x, l, r, f, n, _, _, _, _, rfl, hL, WF.hL W, fun z => absurd ⟨by omega, by omega⟩ z, fun _ _ => ?_⟩
  simp only [Int.toNat_natCast]
  rw [ql]
  walk_at "w"
  intro p hp
  have hxp : x ≠ p := ne_of_none hx hp
  have kp := Kp.refl.new (ms := []) (o := .lst []) hp
  have hp1 : upd H p (.lst []) p = some (.lst []) := upd_same
  generalize upd H p (.lst []) = H1 at kp hp1 ⊢
  have hO1 := hO.kp0 kp
  walk_at "w"
  refine ⟨x, l, r, f, n, o, _, _, _, rfl, hO1, fun z => absurd hop z, fun _ z => absurd z hne, fun _ _ => ?_⟩
  have eR := st_app W (g := (o.natAbs : Int)) (by omega)
  simp only [Int.toNat_natCast] at eR
  rw [eR, frg_eq W (by omega) ho2]
  refine ⟨q.1, by show lowOf s3 o.natAbs ≤ n; omega, by show (1 : Int) ≤ highOf s3 o.natAbs; omega, q.2.2.2, fun t H2 ht k2 ht2 => ?_⟩
  have k02 := kp.trans k2
  have hp2 := k2.at0 hp1
  have hO2 := hO.kp0 k02
  have tp : t ≠ p := Ne.symm (ne_of_none hp1 ht)
  have gl : ∀ g ∈ (if fwA s3 o.natAbs then [lowOf s3 o.natAbs] else []) ++ (if fwB s3 o.natAbs then [highOf s3 o.natAbs - 1] else []), 0 ≤ g ∧ g ≤ n := by
    intro g hg
    rcases List.mem_append.mp hg with hg | hg
    · split at hg
      · rw [List.mem_singleton.mp hg]; omega
      · cases hg
    · split at hg
      · rw [List.mem_singleton.mp hg]; omega
      · cases hg
  have hlow : ∀ g ∈ (if fwB s3 o.natAbs then [highOf s3 o.natAbs - 1] else []), g ≠ lowOf s3 o.natAbs := by
    intro g hg
    split at hg
    · rw [List.mem_singleton.mp hg]; omega
    · cases hg
  have vl : ∀ (g : Int), (if g = lowOf s3 o.natAbs then (if rho s3 g then V.int (g + 1) else .non) else (if lho s3 g then V.int g else .non)) = (if g = lowOf s3 o.natAbs then (if rho s3 g then V.int (g + 1) else .non) else (if lho s3 g then V.int g else .non)) := fun _ => rfl
  have val : ((if fwA s3 o.natAbs then [lowOf s3 o.natAbs] else []) ++ (if fwB s3 o.natAbs then [highOf s3 o.natAbs - 1] else [])).map (fun g => if g = lowOf s3 o.natAbs then (if rho s3 g then V.int (g + 1) else .non) else (if lho s3 g then V.int g else .non)) = hldA s3 o.natAbs ++ hldB s3 o.natAbs := by
    rw [List.map_append]
    unfold hldA hldB
    congr 1
    · split
      · simp
      · rfl
    · split
      · rw [List.map_cons, List.map_nil, if_neg (by omega)]
      · rfl
  have ul : ((if fwA s3 o.natAbs then [lowOf s3 o.natAbs] else []) ++ (if fwB s3 o.natAbs then [highOf s3 o.natAbs - 1] else [])).length ≤ 2 := by
    rw [List.length_append]
    split <;> split <;> simp
  generalize (if fwA s3 o.natAbs then [lowOf s3 o.natAbs] else []) ++ (if fwB s3 o.natAbs then [highOf s3 o.natAbs - 1] else []) = gs at ht2 gl val ul
  refine w_forM (us := gs) (f := V.int) (p := t) ht2 (fun i σ' H' => (∃ z, σ' = [some (.ref x), some (.int o), some (.int (lowOf s3 o.natAbs)), some (.ref p), z]) ∧ Kp [] H H' ∧ H' t = some (.lst (gs.map V.int)) ∧ H' p = some (.lst ((gs.take i).map (fun g => if g = lowOf s3 o.natAbs then (if rho s3 g then V.int (g + 1) else .non) else (if lho s3 g then V.int g else .non))))) ⟨⟨_, rfl⟩, k02, ht2, hp2⟩ (fun i σ' H' _ z => z.2.2.1) ?_ ?_
  · rintro i g σ' H' hg ⟨⟨z, rfl⟩, hk, hT, hP⟩
    have hgb := gl g (List.mem_of_getElem? hg)
    have hOi := hO.kp0 hk
    have hil : i < gs.length := (List.getElem?_eq_some_iff.mp hg).1
    rw [take_snoc hg, List.map_append]
    walk_at "w"
    refine w_ite (fun c => ?_) (fun c => ?_)
    · walk_at "w"
      refine ⟨x, l, r, f, n, g, _, _, _, rfl, hOi, hgb.1, hgb.2, ?_⟩
      walk_at "w"
      refine w_ite (fun c2 => ?_) (fun c2 => ?_)
      · walk_at "w"
        refine w_appL hP (by rw [List.length_map, List.length_take, sizeLine_eq]; omega) ?_
        refine ⟨⟨_, rfl⟩, hk.own hp, upd_get tp hT, ?_⟩
        rw [upd_same, List.map_cons, List.map_nil, if_pos c, if_pos (show rho s3 g from c2)]
      · walk_at "w"
        refine w_appL hP (by rw [List.length_map, List.length_take, sizeLine_eq]; omega) ?_
        refine ⟨⟨_, rfl⟩, hk.own hp, upd_get tp hT, ?_⟩
        rw [upd_same, List.map_cons, List.map_nil, if_pos c, if_neg (show ¬rho s3 g from c2)]
    · walk_at "w"
      refine ⟨x, l, r, f, n, g, _, _, _, rfl, hOi, hgb.1, hgb.2, ?_⟩
      rw [st_app W hgb.2]
      walk_at "w"
      refine w_ite (fun c2 => ?_) (fun c2 => ?_)
      · walk_at "w"
        refine w_appL hP (by rw [List.length_map, List.length_take, sizeLine_eq]; omega) ?_
        refine ⟨⟨_, rfl⟩, hk.own hp, upd_get tp hT, ?_⟩
        rw [upd_same, List.map_cons, List.map_nil, if_neg c, if_pos (show lho s3 g from c2)]
      · walk_at "w"
        refine w_appL hP (by rw [List.length_map, List.length_take, sizeLine_eq]; omega) ?_
        refine ⟨⟨_, rfl⟩, hk.own hp, upd_get tp hT, ?_⟩
        rw [upd_same, List.map_cons, List.map_nil, if_neg c, if_neg (show ¬lho s3 g from c2)]
  · rintro σ' H' ⟨⟨z, rfl⟩, hk, hT, hP⟩
    rw [List.take_length, val] at hP
    walk_at "w"
    exact k p H' hp hk hP

theorem in_loses (s : St3') (v : Int) : inV .non (hldA s v ++ hldB s v) = decide (losesP s v) := by
  unfold hldA hldB losesP inV
  by_cases c1 : fwA s v <;> by_cases c2 : fwB s v <;> by_cases c3 : rho s (lowOf s v) <;> by_cases c4 : lho s (highOf s v - 1) <;> simp [c1, c2, c3, c4, eqV]
theorem hld_flat (s : St3') (v : Int) : (hldA s v ++ hldB s v).all flatV = true := by
  unfold hldA hldB
  by_cases c1 : fwA s v <;> by_cases c2 : fwB s v <;> by_cases c3 : rho s (lowOf s v) <;> by_cases c4 : lho s (highOf s v - 1) <;> simp [c1, c2, c3, c4, flatV]
def sp__loses_gap (a : AD) : Sp := fun vs H Q E => ∃ (x l r f : Addr) (n o : Int) (s : St3'), vs = [.ref x, .int o] ∧ LkS a H x l r f n s ∧ WFs n s ∧ OkAt n s o ∧ ∀ H', Kp [] H H' → Q (.bl (decide (losesP s o.natAbs))) H'
theorem sc__loses_gap : FnScope ["links", "operation"] ["links", "operation"] (defScope s__loses_gap) := ⟨rfl, rfl, rfl, by decide +kernel, rfl, by decide +kernel, by decide +kernel⟩
theorem ok__loses_gap {P : Program} {w : World} {K : PySem.W.Frag} {mg : Str → Option Value} {base : Heap} {a : AD} (T : Txt P K mg a) (G__last_holders : FnA P w K mg base 5 a.f__last_holders ["links", "operation"] (sp__last_holders a)) : FnA P w K mg base 6 a.f__loses_gap ["links", "operation"] (sp__loses_gap a) := by
  obtain ⟨fd, F, b⟩ := T.F__loses_gap
  refine FnA.of F sc__loses_gap b (fun vs H Q E h => by first | (obtain ⟨rfl, _⟩ := h; rfl) | (obtain ⟨_, rfl, _⟩ := h; rfl) | (obtain ⟨_, _, rfl, _⟩ := h; rfl) | (obtain ⟨_, _, _, rfl, _⟩ := h; rfl) | (obtain ⟨_, _, _, _, rfl, _⟩ := h; rfl) | (obtain ⟨_, _, _, _, _, rfl, _⟩ := h; rfl) | (obtain ⟨_, _, _, _, _, _, rfl, _⟩ := h; rfl) | (obtain ⟨_, _, _, _, _, _, _, rfl, _⟩ := h; rfl) | (obtain ⟨_, _, _, _, _, _, _, _, rfl, _⟩ := h; rfl) | (obtain ⟨_, _, _, _, _, _, _, _, _, rfl, _⟩ := h; rfl) | (obtain ⟨_, _, _, _, _, _, _, _, _, _, rfl, _⟩ := h; rfl) | (obtain ⟨_, _, _, _, _, _, _, _, _, _, _, rfl, _⟩ := h; rfl) | (obtain ⟨_, _, _, _, _, _, _, _, _, _, _, _, rfl, _⟩ := h; rfl) | (obtain ⟨_, _, _, _, _, _, _, _, _, _, _, _, _, rfl, _⟩ := h; rfl) | (obtain ⟨_, _, _, _, _, _, _, _, _, _, _, _, _, _, rfl, _⟩ := h; rfl) | (obtain ⟨_, _, _, _, _, _, _, _, _, _, _, _, _, _, _, rfl, _⟩ := h; rfl) | (obtain ⟨_, _, _, _, _, _, _, _, _, _, _, _, _, _, _, _, rfl, _⟩ := h; rfl) | (obtain ⟨_, _, _, _, _, _, _, _, _, _, _, _, _, _, _, _, _, rfl, _⟩ := h; rfl) | (obtain ⟨_, _, _, _, _, _, _, _, _, _, _, _, _, _, _, _, _, _, rfl, _⟩ := h; rfl) | (obtain ⟨_, _, _, _, _, _, _, _, _, _, _, _, _, _, _, _, _, _, _, rfl, _⟩ := h; rfl) | (obtain ⟨_, _, _, _, _, _, _, _, _, _, _, _, _, _, _, _, _, _, _, _, rfl, _⟩ := h; rfl) | (obtain ⟨_, _, _, _, _, _, _, _, _, _, _, _, _, _, _, _, _, _, _, _, _, rfl, _⟩ := h; rfl) | (obtain ⟨_, _, _, _, _, _, _, _, _, _, _, _, _, _, _, _, _, _, _, _, _, _, rfl, _⟩ := h; rfl) | (obtain ⟨_, _, _, _, _, _, _, _, _, _, _, _, _, _, _, _, _, _, _, _, _, _, _, rfl, _⟩ := h; rfl)) (fun cdv A outer s H vs Q E hr tk pz h => ?_)
  have hu := hr.units
  have hrH := L2H.roomH_of hr
  obtain ⟨x, l, r, f, n, o, s3, rfl, hL, W, hok, k⟩ := h
  refine ⟨_, (pss_one (ps_ret (pe_cmpR op_in_seq pe_non (pe_callA G__last_holders (Room.mono hr (by decide)) T.n__last_holders tk (pa_cons (pv 0) (pa_cons (pv 1) pa_nil))) (by rfl)))), ?_⟩
  show (_ : Ends → L2.St → Hp → Prop) _ [some _, some _] _
  try dsimp only [L2H.cxH, cxOf]
  walk_at "w"
  refine ⟨x, l, r, f, n, o, s3, rfl, hL, W, hok, fun p H1 hp k1 hp1 => ?_⟩
  refine ⟨p, _, rfl, .inl (SqL.of hp1), rfl, hld_flat _ _, ?_⟩
  rw [in_loses]
  walk_at "w"
  exact k H1 k1
def badH (s : St3') : V → Bool
  | .non => true
  | .int g => decide (inn s g)
  | _ => false
theorem any_soles (s : St3') (v : Int) : (hldA s v ++ hldB s v).any (badH s) = decide (solesP s v) := by
  unfold hldA hldB solesP
  by_cases c1 : fwA s v <;> by_cases c2 : fwB s v <;> by_cases c3 : rho s (lowOf s v) <;> by_cases c4 : lho s (highOf s v - 1) <;> by_cases c5 : inn s (lowOf s v + 1) <;> by_cases c6 : inn s (highOf s v - 1) <;> simp [c1, c2, c3, c4, c5, c6, badH]
theorem hld_mem {n : Int} {s : St3'} (W : WFs n s) {v : Int} (v1 : 1 ≤ v) (v2 : v ≤ n) {w : V} (h : w ∈ hldA s v ++ hldB s v) : w = .non ∨ ∃ g : Int, w = .int g ∧ 0 ≤ g ∧ g ≤ n + 1 := by
  have q := st_lo W v1 v2
  rcases List.mem_append.mp h with h | h
  · unfold hldA at h
    split at h
    · rw [List.mem_singleton] at h
      split at h
      · exact .inr ⟨_, h, by omega, by omega⟩
      · exact .inl h
    · cases h
  · unfold hldB at h
    split at h
    · rw [List.mem_singleton] at h
      split at h
      · exact .inr ⟨_, h, by omega, by omega⟩
      · exact .inl h
    · cases h
def sp__leaves_sole_holder (a : AD) : Sp := fun vs H Q E => ∃ (x l r f : Addr) (n o : Int) (s : St3'), vs = [.ref x, .int o] ∧ LkS a H x l r f n s ∧ WFs n s ∧ OkAt n s o ∧ ∀ H', Kp [] H H' → Q (.bl (decide (solesP s o.natAbs))) H'
theorem sc__leaves_sole_holder : FnScope ["links", "operation", "holder"] ["links", "operation"] (defScope s__leaves_sole_holder) := ⟨rfl, rfl, rfl, by decide +kernel, rfl, by decide +kernel, by decide +kernel⟩
theorem ok__leaves_sole_holder {P : Program} {w : World} {K : PySem.W.Frag} {mg : Str → Option Value} {base : Heap} {a : AD} (T : Txt P K mg a) (G__last_holders : FnA P w K mg base 5 a.f__last_holders ["links", "operation"] (sp__last_holders a)) (G_Links_is_out : FnA P w K mg base 2 a.f_Links_is_out ["self", "node"] (sp_Links_is_out a)) : FnA P w K mg base 6 a.f__leaves_sole_holder ["links", "operation"] (sp__leaves_sole_holder a) := by
  obtain ⟨fd, F, b⟩ := T.F__leaves_sole_holder
  refine FnA.of F sc__leaves_sole_holder b (fun vs H Q E h => by first | (obtain ⟨rfl, _⟩ := h; rfl) | (obtain ⟨_, rfl, _⟩ := h; rfl) | (obtain ⟨_, _, rfl, _⟩ := h; rfl) | (obtain ⟨_, _, _, rfl, _⟩ := h; rfl) | (obtain ⟨_, _, _, _, rfl, _⟩ := h; rfl) | (obtain ⟨_, _, _, _, _, rfl, _⟩ := h; rfl) | (obtain ⟨_, _, _, _, _, _, rfl, _⟩ := h; rfl) | (obtain ⟨_, _, _, _, _, _, _, rfl, _⟩ := h; rfl) | (obtain ⟨_, _, _, _, _, _, _, _, rfl, _⟩ := h; rfl) | (obtain ⟨_, _, _, _, _, _, _, _, _, rfl, _⟩ := h; rfl) | (obtain ⟨_, _, _, _, _, _, _, _, _, _, rfl, _⟩ := h; rfl) | (obtain ⟨_, _, _, _, _, _, _, _, _, _, _, rfl, _⟩ := h; rfl) | (obtain ⟨_, _, _, _, _, _, _, _, _, _, _, _, rfl, _⟩ := h; rfl) | (obtain ⟨_, _, _, _, _, _, _, _, _, _, _, _, _, rfl, _⟩ := h; rfl) | (obtain ⟨_, _, _, _, _, _, _, _, _, _, _, _, _, _, rfl, _⟩ := h; rfl) | (obtain ⟨_, _, _, _, _, _, _, _, _, _, _, _, _, _, _, rfl, _⟩ := h; rfl) | (obtain ⟨_, _, _, _, _, _, _, _, _, _, _, _, _, _, _, _, rfl, _⟩ := h; rfl) | (obtain ⟨_, _, _, _, _, _, _, _, _, _, _, _, _, _, _, _, _, rfl, _⟩ := h; rfl) | (obtain ⟨_, _, _, _, _, _, _, _, _, _, _, _, _, _, _, _, _, _, rfl, _⟩ := h; rfl) | (obtain ⟨_, _, _, _, _, _, _, _, _, _, _, _, _, _, _, _, _, _, _, rfl, _⟩ := h; rfl) | (obtain ⟨_, _, _, _, _, _, _, _, _, _, _, _, _, _, _, _, _, _, _, _, rfl, _⟩ := h; rfl) | (obtain ⟨_, _, _, _, _, _, _, _, _, _, _, _, _, _, _, _, _, _, _, _, _, rfl, _⟩ := h; rfl) | (obtain ⟨_, _, _, _, _, _, _, _, _, _, _, _, _, _, _, _, _, _, _, _, _, _, rfl, _⟩ := h; rfl) | (obtain ⟨_, _, _, _, _, _, _, _, _, _, _, _, _, _, _, _, _, _, _, _, _, _, _, rfl, _⟩ := h; rfl)) (fun cdv A outer s H vs Q E hr tk pz h => ?_)
  have hu := hr.units
  have hrH := L2H.roomH_of hr
  obtain ⟨x, l, r, f, n, o, s3, rfl, hL, W, hok, k⟩ := h
  refine ⟨_, (pss_cons (ps_for pz rfl (pi_list (pe_callA G__last_holders (Room.mono hr (by decide)) T.n__last_holders tk (pa_cons (pv 0) (pa_cons (pv 1) pa_nil)))) (pg_name (i := 2) sc__leaves_sole_holder.nd rfl (Or.inl rfl))
      (pss_one (ps_if (PW.pt (pw_or (pt_cmpA o_isN (pv 2) pe_non (nomark _)) (pw_or1 (pt_not (pt_tru (pe_methS (pl := _) G_Links_is_out (Room.mono hr (by decide)) T.cl_Links T.me_Links_is_out tk (pv 0) (pa_cons (pv 2) pa_nil))))))) (pss_one (ps_ret pe_bl)) pss_nil)))
      (pss_one (ps_ret pe_bl))), ?_⟩
  show (_ : Ends → L2.St → Hp → Prop) _ [some _, some _, none] _
  try dsimp only [L2H.cxH, cxOf]
  obtain ⟨⟨dx, hx⟩, _⟩ := id hL
  obtain ⟨hop, hne⟩ := id hok
  have ho1 := hop.1
  have ho2 := hop.2
  have n0 := WF.n0 W
  walk_at "w"
  refine ⟨x, l, r, f, n, o, s3, rfl, hL, W, hok, fun p H1 hp k1 hp1 => ?_⟩
  have hm : ∀ w ∈ hldA s3 o.natAbs ++ hldB s3 o.natAbs, w = .non ∨ ∃ g : Int, w = .int g ∧ 0 ≤ g ∧ g ≤ n + 1 := fun w hw => hld_mem W (by omega) ho2 hw
  have ha := any_soles s3 o.natAbs
  generalize hldA s3 o.natAbs ++ hldB s3 o.natAbs = ws at hp1 hm ha
  refine w_forM (us := ws) (f := fun v => v) (p := p) (by rw [List.map_id']; exact hp1) (fun i σ' H' => (∃ z, σ' = [some (.ref x), some (.int o), z]) ∧ H' = H1 ∧ (ws.take i).any (badH s3) = false) ⟨⟨_, rfl⟩, rfl, rfl⟩ (fun i σ' H' _ z => by rw [z.2.1, List.map_id']; exact hp1) ?_ ?_
  · rintro i w σ' H' hw ⟨⟨z, rfl⟩, e, hj⟩
    subst e
    have hL1 := hL.kp0 k1
    have hil : i < ws.length := (List.getElem?_eq_some_iff.mp hw).1
    have fin : badH s3 w = true → Q (.bl true) H' := fun q => by
      have e : decide (solesP s3 o.natAbs) = true := by rw [← ha, List.any_eq_true]; exact ⟨w, List.mem_of_getElem? hw, q⟩
      rw [← e]
      exact k H' k1
    have go : badH s3 w = false → (ws.take (i + 1)).any (badH s3) = false := fun q => by
      rw [take_snoc hw, List.any_append, hj]
      simp [q]
    rcases hm w (List.mem_of_getElem? hw) with rfl | ⟨g, rfl, g0, g1⟩
    · walk_at "w"
      exact fin rfl
    · walk_at "w"
      refine ⟨x, l, r, f, n, g, _, _, _, rfl, hL1, WF.hF W, fun z => absurd ⟨g0, g1⟩ z, fun _ _ => ?_⟩
      walk_at "w"
      refine w_itenb (fun c => ?_) (fun c => ?_)
      · walk_at "w"
        exact fin (by show decide (inn s3 g) = true; exact decide_eq_true c)
      · walk_at "w"
        exact ⟨⟨_, rfl⟩, rfl, go (by show decide (inn s3 g) = false; exact decide_eq_false (fun z => by unfold inn at z; rw [c] at z; cases z))⟩
  · rintro σ' H' ⟨⟨z, rfl⟩, e, hj⟩
    subst e
    walk_at "w"
    rw [List.take_length, ha] at hj
    rw [← hj]
    exact k H' k1

def sp__is_local (a : AD) : Sp := fun vs H Q E => ∃ (x l r f : Addr) (n o : Int) (s : St3'), vs = [.ref x, .int o] ∧ LkS a H x l r f n s ∧ WFs n s ∧ OkAt n s o ∧ Q (.bl (decide (localP s o))) H
theorem sc__is_local : FnScope ["links", "operation", "node", "before", "behind"] ["links", "operation"] (defScope s__is_local) := ⟨rfl, rfl, rfl, by decide +kernel, rfl, by decide +kernel, by decide +kernel⟩
theorem ok__is_local {P : Program} {w : World} {K : PySem.W.Frag} {mg : Str → Option Value} {base : Heap} {a : AD} (T : Txt P K mg a) (G_Links_left : FnA P w K mg base 2 a.f_Links_left ["self", "node"] (sp_Links_left a)) (G_Links_right : FnA P w K mg base 2 a.f_Links_right ["self", "node"] (sp_Links_right a)) (G_Links_is_out : FnA P w K mg base 2 a.f_Links_is_out ["self", "node"] (sp_Links_is_out a)) : FnA P w K mg base 3 a.f__is_local ["links", "operation"] (sp__is_local a) := by
  obtain ⟨fd, F, b⟩ := T.F__is_local
  refine FnA.of F sc__is_local b (fun vs H Q E h => by first | (obtain ⟨rfl, _⟩ := h; rfl) | (obtain ⟨_, rfl, _⟩ := h; rfl) | (obtain ⟨_, _, rfl, _⟩ := h; rfl) | (obtain ⟨_, _, _, rfl, _⟩ := h; rfl) | (obtain ⟨_, _, _, _, rfl, _⟩ := h; rfl) | (obtain ⟨_, _, _, _, _, rfl, _⟩ := h; rfl) | (obtain ⟨_, _, _, _, _, _, rfl, _⟩ := h; rfl) | (obtain ⟨_, _, _, _, _, _, _, rfl, _⟩ := h; rfl) | (obtain ⟨_, _, _, _, _, _, _, _, rfl, _⟩ := h; rfl) | (obtain ⟨_, _, _, _, _, _, _, _, _, rfl, _⟩ := h; rfl) | (obtain ⟨_, _, _, _, _, _, _, _, _, _, rfl, _⟩ := h; rfl) | (obtain ⟨_, _, _, _, _, _, _, _, _, _, _, rfl, _⟩ := h; rfl) | (obtain ⟨_, _, _, _, _, _, _, _, _, _, _, _, rfl, _⟩ := h; rfl) | (obtain ⟨_, _, _, _, _, _, _, _, _, _, _, _, _, rfl, _⟩ := h; rfl) | (obtain ⟨_, _, _, _, _, _, _, _, _, _, _, _, _, _, rfl, _⟩ := h; rfl) | (obtain ⟨_, _, _, _, _, _, _, _, _, _, _, _, _, _, _, rfl, _⟩ := h; rfl) | (obtain ⟨_, _, _, _, _, _, _, _, _, _, _, _, _, _, _, _, rfl, _⟩ := h; rfl) | (obtain ⟨_, _, _, _, _, _, _, _, _, _, _, _, _, _, _, _, _, rfl, _⟩ := h; rfl) | (obtain ⟨_, _, _, _, _, _, _, _, _, _, _, _, _, _, _, _, _, _, rfl, _⟩ := h; rfl) | (obtain ⟨_, _, _, _, _, _, _, _, _, _, _, _, _, _, _, _, _, _, _, rfl, _⟩ := h; rfl) | (obtain ⟨_, _, _, _, _, _, _, _, _, _, _, _, _, _, _, _, _, _, _, _, rfl, _⟩ := h; rfl) | (obtain ⟨_, _, _, _, _, _, _, _, _, _, _, _, _, _, _, _, _, _, _, _, _, rfl, _⟩ := h; rfl) | (obtain ⟨_, _, _, _, _, _, _, _, _, _, _, _, _, _, _, _, _, _, _, _, _, _, rfl, _⟩ := h; rfl) | (obtain ⟨_, _, _, _, _, _, _, _, _, _, _, _, _, _, _, _, _, _, _, _, _, _, _, rfl, _⟩ := h; rfl)) (fun cdv A outer s H vs Q E hr tk pz h => ?_)
  have hu := hr.units
  have hrH := L2H.roomH_of hr
  obtain ⟨x, l, r, f, n, o, s3, rfl, hL, W, hok, k⟩ := h
  refine ⟨_, (pss_cons (ps_set (i := 2) sc__is_local.nd rfl (Or.inl rfl) (pe_callB (b_abs) rfl T.b_abs (by decide +kernel) (pa_cons (pv 1) pa_nil)))
      (pss_cons (ps_set (i := 3) sc__is_local.nd rfl (Or.inl rfl) (pe_methS (pl := _) G_Links_left (Room.mono hr (by decide)) T.cl_Links T.me_Links_left tk (pv 0) (pa_cons (pv 2) pa_nil)))
      (pss_cons (ps_set (i := 4) sc__is_local.nd rfl (Or.inl rfl) (pe_methS (pl := _) G_Links_right (Room.mono hr (by decide)) T.cl_Links T.me_Links_right tk (pv 0) (pa_cons (pv 2) pa_nil)))
      (pss_cons (ps_if (PW.pt (pw_or (pt_tru (pe_methS (pl := _) G_Links_is_out (Room.mono hr (by decide)) T.cl_Links T.me_Links_is_out tk (pv 0) (pa_cons (pv 3) pa_nil))) (pw_or1 (pt_tru (pe_methS (pl := _) G_Links_is_out (Room.mono hr (by decide)) T.cl_Links T.me_Links_is_out tk (pv 0) (pa_cons (pv 4) pa_nil)))))) (pss_one (ps_ret pe_bl)) pss_nil)
      (pss_cons (ps_if (pt_cmpA op_lt (pv 1) pe_int (nomark _)) (pss_one (ps_ret (pe_and (pe_cmpR (o_eq hu) (pe_methS (pl := _) G_Links_right (Room.mono hr (by decide)) T.cl_Links T.me_Links_right tk (pv 0) (pa_cons (pv 3) pa_nil)) (pv 2) (nomark _)) (pe_one (pe_cmpR (o_eq hu) (pe_methS (pl := _) G_Links_left (Room.mono hr (by decide)) T.cl_Links T.me_Links_left tk (pv 0) (pa_cons (pv 4) pa_nil)) (pv 2) (nomark _)))))) pss_nil)
      (pss_one (ps_ret (pe_and (pe_cmpR (o_eq hu) (pe_methS (pl := _) G_Links_right (Room.mono hr (by decide)) T.cl_Links T.me_Links_right tk (pv 0) (pa_cons (pv 3) pa_nil)) (pv 4) (nomark _)) (pe_one (pe_cmpR (o_eq hu) (pe_methS (pl := _) G_Links_left (Room.mono hr (by decide)) T.cl_Links T.me_Links_left tk (pv 0) (pa_cons (pv 4) pa_nil)) (pv 3) (nomark _))))))))))), ?_⟩
  show (_ : Ends → L2.St → Hp → Prop) _ [some _, some _, none, none, none] _
  try dsimp only [L2H.cxH, cxOf]
  have hO := hL.obj W
  obtain ⟨⟨dx, hx⟩, _⟩ := id hL
  obtain ⟨hop, hne⟩ := id hok
  have ho1 := hop.1
  have ho2 := hop.2
  have n0 := WF.n0 W
  have q := st_lo W (v := o.natAbs) (by omega) ho2
  have ql : s3.2.1.getD o.natAbs default = lowOf s3 o.natAbs := rfl
  have qh : (s3.1 ++ [n + 2]).getD o.natAbs default = highOf s3 o.natAbs := by
    have := st_app W (g := (o.natAbs : Int)) (by omega)
    rw [Int.toNat_natCast] at this
    rw [this]
    rfl
  have lF : (decide (localP s3 o)) = false → Q (.bl false) H := fun z => by rw [z] at k; exact k
  have lT : ∀ b : Bool, (decide (localP s3 o)) = b → Q (.bl b) H := fun b z => by rw [z] at k; exact k
  walk_at "w"
  refine ⟨x, l, r, f, n, _, _, _, _, rfl, hL, WF.hL W, fun z => absurd ⟨by omega, by omega⟩ z, fun _ _ => ?_⟩
  simp only [Int.toNat_natCast]
  rw [ql]
  walk_at "w"
  refine ⟨x, l, r, f, n, _, _, _, _, rfl, hL, hO.2.2.2.2.1, fun z => absurd ⟨by omega, by omega⟩ z, fun _ _ => ?_⟩
  simp only [Int.toNat_natCast]
  rw [qh]
  walk_at "w"
  refine ⟨x, l, r, f, n, _, _, _, _, rfl, hL, WF.hF W, fun z => absurd ⟨by omega, by omega⟩ z, fun _ _ => ?_⟩
  walk_at "w"
  refine w_iteb (fun c1 => ?_) (fun c1 => ?_)
  · walk_at "w"
    exact lF (decide_eq_false (fun z => by have := z.1; unfold inn at this; rw [c1] at this; cases this))
  walk_at "w"
  refine ⟨x, l, r, f, n, _, _, _, _, rfl, hL, WF.hF W, fun z => absurd ⟨by omega, by omega⟩ z, fun _ _ => ?_⟩
  walk_at "w"
  refine w_iteb (fun c2 => ?_) (fun c2 => ?_)
  · walk_at "w"
    exact lF (decide_eq_false (fun z => by have := z.2.1; unfold inn at this; rw [c2] at this; cases this))
  have i1 : inn s3 (lowOf s3 o.natAbs) := c1
  have i2 : inn s3 (highOf s3 o.natAbs) := c2
  unfold localP at lF lT
  walk_at "w"
  refine w_ite (fun c3 => ?_) (fun c3 => ?_)
  · simp only [i1, i2, true_and, if_pos c3] at lF lT
    walk_at "w"
    refine ⟨x, l, r, f, n, _, _, _, _, rfl, hL, hO.2.2.2.2.1, fun z => absurd ⟨by omega, by omega⟩ z, fun _ _ => ?_⟩
    rw [st_app W (by omega)]
    walk_at "w"
    refine w_ite (fun c4 => ?_) (fun c4 => ?_)
    · walk_at "w"
      refine ⟨x, l, r, f, n, _, _, _, _, rfl, hL, WF.hL W, fun z => absurd ⟨by omega, by omega⟩ z, fun _ _ => ?_⟩
      walk_at "w"
      refine lT _ ?_
      simp only [c4, true_and]
    · walk_at "w"
      exact lF (decide_eq_false (fun z => c4 z.1))
  · simp only [i1, i2, true_and, if_neg c3] at lF lT
    walk_at "w"
    refine ⟨x, l, r, f, n, _, _, _, _, rfl, hL, hO.2.2.2.2.1, fun z => absurd ⟨by omega, by omega⟩ z, fun _ _ => ?_⟩
    rw [st_app W (by omega)]
    walk_at "w"
    refine w_ite (fun c4 => ?_) (fun c4 => ?_)
    · walk_at "w"
      refine ⟨x, l, r, f, n, _, _, _, _, rfl, hL, WF.hL W, fun z => absurd ⟨by omega, by omega⟩ z, fun _ _ => ?_⟩
      walk_at "w"
      refine lT _ ?_
      simp only [c4, true_and]
    · walk_at "w"
      exact lF (decide_eq_false (fun z => c4 z.1))
/-- what refusal keeps, of the class at place k, for an object of the class at place d -/
def refSp (a : AD) (k : Nat) : Sp := fun vs H Q E => ∃ (j x l r f : Addr) (n o : Int) (s : St3') (d : Nat) (dx : Addr) (fs : List (Str × V)), vs = [.ref j, .ref x, .int o] ∧ H j = some (.ins (clsM a d) dx fs) ∧ k ≤ d ∧ d ≤ 3 ∧ LkS a H x l r f n s ∧ WFs n s ∧ legSp a n o 0 s.2.2 H E (∀ H', Kp [] H H' → Q (.str (refM s o k)) H')
def sp_FreeMode_refusal (a : AD) : Sp := refSp a 0
def sp_SavingMode_refusal (a : AD) : Sp := refSp a 1
def sp_GuardedMode_refusal (a : AD) : Sp := refSp a 2
def sp_CheckedMode_refusal (a : AD) : Sp := refSp a 3
theorem refM_1 (s : St3') (o : Int) : refM s o 1 = if losesP s o.natAbs then ("saving" : Str) else ("" : Str) := rfl
theorem refM_2 (s : St3') (o : Int) : refM s o 2 = if losesP s o.natAbs then ("saving" : Str) else if solesP s o.natAbs then ("guarded" : Str) else ("" : Str) := rfl
theorem refM_3 (s : St3') (o : Int) : refM s o 3 = if losesP s o.natAbs then ("saving" : Str) else if solesP s o.natAbs then ("guarded" : Str) else if localP s o then ("" : Str) else ("checked" : Str) := rfl
theorem sc_FreeMode_refusal : FnScope ["self", "links", "operation"] ["self", "links", "operation"] (defScope s_FreeMode_refusal) := ⟨rfl, rfl, rfl, by decide +kernel, rfl, by decide +kernel, by decide +kernel⟩
theorem ok_FreeMode_refusal {P : Program} {w : World} {K : PySem.W.Frag} {mg : Str → Option Value} {base : Heap} {a : AD} (T : Txt P K mg a) (G__check_legal : FnA P w K mg base 3 a.f__check_legal ["links", "operation", "index"] (sp__check_legal a)) : FnA P w K mg base 4 a.f_FreeMode_refusal ["self", "links", "operation"] (sp_FreeMode_refusal a) := by
  obtain ⟨fd, F, b⟩ := T.F_FreeMode_refusal
  refine FnA.of F sc_FreeMode_refusal b (fun vs H Q E h => by first | (obtain ⟨rfl, _⟩ := h; rfl) | (obtain ⟨_, rfl, _⟩ := h; rfl) | (obtain ⟨_, _, rfl, _⟩ := h; rfl) | (obtain ⟨_, _, _, rfl, _⟩ := h; rfl) | (obtain ⟨_, _, _, _, rfl, _⟩ := h; rfl) | (obtain ⟨_, _, _, _, _, rfl, _⟩ := h; rfl) | (obtain ⟨_, _, _, _, _, _, rfl, _⟩ := h; rfl) | (obtain ⟨_, _, _, _, _, _, _, rfl, _⟩ := h; rfl) | (obtain ⟨_, _, _, _, _, _, _, _, rfl, _⟩ := h; rfl) | (obtain ⟨_, _, _, _, _, _, _, _, _, rfl, _⟩ := h; rfl) | (obtain ⟨_, _, _, _, _, _, _, _, _, _, rfl, _⟩ := h; rfl) | (obtain ⟨_, _, _, _, _, _, _, _, _, _, _, rfl, _⟩ := h; rfl) | (obtain ⟨_, _, _, _, _, _, _, _, _, _, _, _, rfl, _⟩ := h; rfl) | (obtain ⟨_, _, _, _, _, _, _, _, _, _, _, _, _, rfl, _⟩ := h; rfl) | (obtain ⟨_, _, _, _, _, _, _, _, _, _, _, _, _, _, rfl, _⟩ := h; rfl) | (obtain ⟨_, _, _, _, _, _, _, _, _, _, _, _, _, _, _, rfl, _⟩ := h; rfl) | (obtain ⟨_, _, _, _, _, _, _, _, _, _, _, _, _, _, _, _, rfl, _⟩ := h; rfl) | (obtain ⟨_, _, _, _, _, _, _, _, _, _, _, _, _, _, _, _, _, rfl, _⟩ := h; rfl) | (obtain ⟨_, _, _, _, _, _, _, _, _, _, _, _, _, _, _, _, _, _, rfl, _⟩ := h; rfl) | (obtain ⟨_, _, _, _, _, _, _, _, _, _, _, _, _, _, _, _, _, _, _, rfl, _⟩ := h; rfl) | (obtain ⟨_, _, _, _, _, _, _, _, _, _, _, _, _, _, _, _, _, _, _, _, rfl, _⟩ := h; rfl) | (obtain ⟨_, _, _, _, _, _, _, _, _, _, _, _, _, _, _, _, _, _, _, _, _, rfl, _⟩ := h; rfl) | (obtain ⟨_, _, _, _, _, _, _, _, _, _, _, _, _, _, _, _, _, _, _, _, _, _, rfl, _⟩ := h; rfl) | (obtain ⟨_, _, _, _, _, _, _, _, _, _, _, _, _, _, _, _, _, _, _, _, _, _, _, rfl, _⟩ := h; rfl)) (fun cdv A outer s H vs Q E hr tk pz h => ?_)
  have hu := hr.units
  have hrH := L2H.roomH_of hr
  obtain ⟨j, x, l, r, f, n, o, s3, d, dx, fs, rfl, hj, h0, h3, hL, W, e1, e2, e3⟩ := h
  refine ⟨_, (pss_cons (ps_expr (pe_callA G__check_legal (Room.mono hr (by decide)) T.n__check_legal tk (pa_cons (pv 1) (pa_cons (pv 2) (pa_cons pe_int pa_nil)))))
      (pss_one (ps_ret pe_str))), ?_⟩
  show (_ : Ends → L2.St → Hp → Prop) _ [some _, some _, some _] _
  try dsimp only [L2H.cxH, cxOf]
  walk_at "w"
  refine ⟨x, l, r, f, n, o, 0, s3, rfl, hL, W, e1, e2, fun u1 u2 => ?_⟩
  walk_at "w"
  exact e3 u1 u2 H Kp.refl
theorem scs_SavingMode_refusal : NdefX.NScope ["self", "links", "operation", "__class__", "weaker"] ["self", "links", "operation"] ["__class__"] (defScope s_SavingMode_refusal) := NdefX.nscope_by (by decide +kernel)
theorem ok_SavingMode_refusal {P : Program} {w : World} {K : PySem.W.Frag} {mg : Str → Option Value} {base : Heap} {a : AD} (T : Txt P K mg a) (G_FreeMode_refusal : FnA P w K mg base 4 a.f_FreeMode_refusal ["self", "links", "operation"] (sp_FreeMode_refusal a)) (G__loses_gap : FnA P w K mg base 6 a.f__loses_gap ["links", "operation"] (sp__loses_gap a)) : FnA P w K mg base 7 a.f_SavingMode_refusal ["self", "links", "operation"] (sp_SavingMode_refusal a) := by
  refine FnA.ofSup (m := "refusal") (i := 4) (e := _) (e2 := _) (rest := _) T.sf_SavingMode_refusal scs_SavingMode_refusal rfl (fun vs H Q E h => by first | (obtain ⟨rfl, _⟩ := h; rfl) | (obtain ⟨_, rfl, _⟩ := h; rfl) | (obtain ⟨_, _, rfl, _⟩ := h; rfl) | (obtain ⟨_, _, _, rfl, _⟩ := h; rfl) | (obtain ⟨_, _, _, _, rfl, _⟩ := h; rfl) | (obtain ⟨_, _, _, _, _, rfl, _⟩ := h; rfl) | (obtain ⟨_, _, _, _, _, _, rfl, _⟩ := h; rfl) | (obtain ⟨_, _, _, _, _, _, _, rfl, _⟩ := h; rfl) | (obtain ⟨_, _, _, _, _, _, _, _, rfl, _⟩ := h; rfl) | (obtain ⟨_, _, _, _, _, _, _, _, _, rfl, _⟩ := h; rfl) | (obtain ⟨_, _, _, _, _, _, _, _, _, _, rfl, _⟩ := h; rfl) | (obtain ⟨_, _, _, _, _, _, _, _, _, _, _, rfl, _⟩ := h; rfl) | (obtain ⟨_, _, _, _, _, _, _, _, _, _, _, _, rfl, _⟩ := h; rfl) | (obtain ⟨_, _, _, _, _, _, _, _, _, _, _, _, _, rfl, _⟩ := h; rfl) | (obtain ⟨_, _, _, _, _, _, _, _, _, _, _, _, _, _, rfl, _⟩ := h; rfl) | (obtain ⟨_, _, _, _, _, _, _, _, _, _, _, _, _, _, _, rfl, _⟩ := h; rfl) | (obtain ⟨_, _, _, _, _, _, _, _, _, _, _, _, _, _, _, _, rfl, _⟩ := h; rfl) | (obtain ⟨_, _, _, _, _, _, _, _, _, _, _, _, _, _, _, _, _, rfl, _⟩ := h; rfl) | (obtain ⟨_, _, _, _, _, _, _, _, _, _, _, _, _, _, _, _, _, _, rfl, _⟩ := h; rfl) | (obtain ⟨_, _, _, _, _, _, _, _, _, _, _, _, _, _, _, _, _, _, _, rfl, _⟩ := h; rfl) | (obtain ⟨_, _, _, _, _, _, _, _, _, _, _, _, _, _, _, _, _, _, _, _, rfl, _⟩ := h; rfl) | (obtain ⟨_, _, _, _, _, _, _, _, _, _, _, _, _, _, _, _, _, _, _, _, _, rfl, _⟩ := h; rfl) | (obtain ⟨_, _, _, _, _, _, _, _, _, _, _, _, _, _, _, _, _, _, _, _, _, _, rfl, _⟩ := h; rfl) | (obtain ⟨_, _, _, _, _, _, _, _, _, _, _, _, _, _, _, _, _, _, _, _, _, _, _, rfl, _⟩ := h; rfl)) ⟨_, _, _, _, _, _, rfl, rfl⟩ rfl rfl (by decide) (fun cl cda A outer s H vs Q E hr tk pz h => ?_)
  have hu := hr.units
  obtain ⟨j, x, l, r, f, n, o, s3, d, dx, fs, rfl, hj, h0, h3, hL, W, e1, e2, e3⟩ := h
  have hself := hj
  have hSA : SupAt K a.SavingMode (clsM a d) "refusal" a.f_FreeMode_refusal := by
    match d, h0, h3 with
    | 1, _, _ => exact T.sa_SavingMode_refusal_SavingMode
    | 2, _, _ => exact T.sa_SavingMode_refusal_GuardedMode
    | 3, _, _ => exact T.sa_SavingMode_refusal_CheckedMode
  refine ⟨rfl, rfl, _, _, _, _, _, _, _, _, rfl, hself, hSA, (FnA.mono G_FreeMode_refusal (by decide)), (pa_cons (pv 1) (pa_cons (pv 2) pa_nil)), ?_⟩
  show (_ : L2.St → Hp → (List V → Hp → Prop) → Prop) [some _, some _, some _, none, none] _ _
  walk_at "w"
  refine ⟨j, x, l, r, f, n, o, s3, d, dx, fs, rfl, hj, by omega, h3, hL, W, e1, e2, fun u1 u2 H1 k1 => ?_⟩
  refine ⟨_, (pss_cons (ps_if (PW.pt (pw_and (pt_cmpA (o_eq hu) (pv 4) pe_str (nomark _)) (pw_and1 (pt_tru (pe_callA G__loses_gap (Room.mono hr (by decide)) T.n__loses_gap tk (pa_cons (pv 1) (pa_cons (pv 2) pa_nil))))))) (pss_one (ps_ret (ClX.pe_cval (pe_glob (v := .ref a.SavingMode) rfl T.c_SavingMode rfl)))) pss_nil)
      (pss_one (ps_ret (pv 4)))), ?_⟩
  show (_ : Ends → L2.St → Hp → Prop) _ _ _
  dsimp only [ncxS, NdefX.ncx]
  walk_at "w"
  refine ⟨x, l, r, f, n, o, s3, rfl, hL.kp0 k1, W, ⟨u1, u2⟩, fun H2 k2 => ?_⟩
  have e := e3 u1 u2 H2 (k1.trans k2)
  rw [refM_1] at e
  walk_at "w"
  refine w_ite (fun c => ?_) (fun c => ?_)
  · rw [if_pos c] at e
    walk_at "w"
    exact e
  · rw [if_neg c] at e
    walk_at "w"
    exact e
theorem scs_GuardedMode_refusal : NdefX.NScope ["self", "links", "operation", "__class__", "weaker"] ["self", "links", "operation"] ["__class__"] (defScope s_GuardedMode_refusal) := NdefX.nscope_by (by decide +kernel)
theorem ok_GuardedMode_refusal {P : Program} {w : World} {K : PySem.W.Frag} {mg : Str → Option Value} {base : Heap} {a : AD} (T : Txt P K mg a) (G_SavingMode_refusal : FnA P w K mg base 7 a.f_SavingMode_refusal ["self", "links", "operation"] (sp_SavingMode_refusal a)) (G__leaves_sole_holder : FnA P w K mg base 6 a.f__leaves_sole_holder ["links", "operation"] (sp__leaves_sole_holder a)) : FnA P w K mg base 8 a.f_GuardedMode_refusal ["self", "links", "operation"] (sp_GuardedMode_refusal a) := by
  refine FnA.ofSup (m := "refusal") (i := 4) (e := _) (e2 := _) (rest := _) T.sf_GuardedMode_refusal scs_GuardedMode_refusal rfl (fun vs H Q E h => by first | (obtain ⟨rfl, _⟩ := h; rfl) | (obtain ⟨_, rfl, _⟩ := h; rfl) | (obtain ⟨_, _, rfl, _⟩ := h; rfl) | (obtain ⟨_, _, _, rfl, _⟩ := h; rfl) | (obtain ⟨_, _, _, _, rfl, _⟩ := h; rfl) | (obtain ⟨_, _, _, _, _, rfl, _⟩ := h; rfl) | (obtain ⟨_, _, _, _, _, _, rfl, _⟩ := h; rfl) | (obtain ⟨_, _, _, _, _, _, _, rfl, _⟩ := h; rfl) | (obtain ⟨_, _, _, _, _, _, _, _, rfl, _⟩ := h; rfl) | (obtain ⟨_, _, _, _, _, _, _, _, _, rfl, _⟩ := h; rfl) | (obtain ⟨_, _, _, _, _, _, _, _, _, _, rfl, _⟩ := h; rfl) | (obtain ⟨_, _, _, _, _, _, _, _, _, _, _, rfl, _⟩ := h; rfl) | (obtain ⟨_, _, _, _, _, _, _, _, _, _, _, _, rfl, _⟩ := h; rfl) | (obtain ⟨_, _, _, _, _, _, _, _, _, _, _, _, _, rfl, _⟩ := h; rfl) | (obtain ⟨_, _, _, _, _, _, _, _, _, _, _, _, _, _, rfl, _⟩ := h; rfl) | (obtain ⟨_, _, _, _, _, _, _, _, _, _, _, _, _, _, _, rfl, _⟩ := h; rfl) | (obtain ⟨_, _, _, _, _, _, _, _, _, _, _, _, _, _, _, _, rfl, _⟩ := h; rfl) | (obtain ⟨_, _, _, _, _, _, _, _, _, _, _, _, _, _, _, _, _, rfl, _⟩ := h; rfl) | (obtain ⟨_, _, _, _, _, _, _, _, _, _, _, _, _, _, _, _, _, _, rfl, _⟩ := h; rfl) | (obtain ⟨_, _, _, _, _, _, _, _, _, _, _, _, _, _, _, _, _, _, _, rfl, _⟩ := h; rfl) | (obtain ⟨_, _, _, _, _, _, _, _, _, _, _, _, _, _, _, _, _, _, _, _, rfl, _⟩ := h; rfl) | (obtain ⟨_, _, _, _, _, _, _, _, _, _, _, _, _, _, _, _, _, _, _, _, _, rfl, _⟩ := h; rfl) | (obtain ⟨_, _, _, _, _, _, _, _, _, _, _, _, _, _, _, _, _, _, _, _, _, _, rfl, _⟩ := h; rfl) | (obtain ⟨_, _, _, _, _, _, _, _, _, _, _, _, _, _, _, _, _, _, _, _, _, _, _, rfl, _⟩ := h; rfl)) ⟨_, _, _, _, _, _, rfl, rfl⟩ rfl rfl (by decide) (fun cl cda A outer s H vs Q E hr tk pz h => ?_)
  have hu := hr.units
  obtain ⟨j, x, l, r, f, n, o, s3, d, dx, fs, rfl, hj, h0, h3, hL, W, e1, e2, e3⟩ := h
  have hself := hj
  have hSA : SupAt K a.GuardedMode (clsM a d) "refusal" a.f_SavingMode_refusal := by
    match d, h0, h3 with
    | 2, _, _ => exact T.sa_GuardedMode_refusal_GuardedMode
    | 3, _, _ => exact T.sa_GuardedMode_refusal_CheckedMode
  refine ⟨rfl, rfl, _, _, _, _, _, _, _, _, rfl, hself, hSA, (FnA.mono G_SavingMode_refusal (by decide)), (pa_cons (pv 1) (pa_cons (pv 2) pa_nil)), ?_⟩
  show (_ : L2.St → Hp → (List V → Hp → Prop) → Prop) [some _, some _, some _, none, none] _ _
  walk_at "w"
  refine ⟨j, x, l, r, f, n, o, s3, d, dx, fs, rfl, hj, by omega, h3, hL, W, e1, e2, fun u1 u2 H1 k1 => ?_⟩
  rw [refM_1]
  refine ⟨_, (pss_cons (ps_if (PW.pt (pw_and (pt_cmpA (o_eq hu) (pv 4) pe_str (nomark _)) (pw_and1 (pt_tru (pe_callA G__leaves_sole_holder (Room.mono hr (by decide)) T.n__leaves_sole_holder tk (pa_cons (pv 1) (pa_cons (pv 2) pa_nil))))))) (pss_one (ps_ret (ClX.pe_cval (pe_glob (v := .ref a.GuardedMode) rfl T.c_GuardedMode rfl)))) pss_nil)
      (pss_one (ps_ret (pv 4)))), ?_⟩
  show (_ : Ends → L2.St → Hp → Prop) _ _ _
  dsimp only [ncxS, NdefX.ncx]
  by_cases c1 : losesP s3 o.natAbs
  · have e : ∀ H2, Kp [] H H2 → Q (.str "saving") H2 := fun H2 k2 => by
      have e := e3 u1 u2 H2 k2
      rw [refM_2, if_pos c1] at e
      exact e
    rw [if_pos c1]
    walk_at "w"
    exact e H1 k1
  have e : ∀ H2, Kp [] H H2 → Q (.str (if solesP s3 o.natAbs then ("guarded" : Str) else ("" : Str))) H2 := fun H2 k2 => by
    have e := e3 u1 u2 H2 k2
    rw [refM_2, if_neg c1] at e
    exact e
  rw [if_neg c1]
  walk_at "w"
  refine ⟨x, l, r, f, n, o, s3, rfl, hL.kp0 k1, W, ⟨u1, u2⟩, fun H2 k2 => ?_⟩
  have e := e H2 (k1.trans k2)
  walk_at "w"
  refine w_ite (fun c => ?_) (fun c => ?_)
  · rw [if_pos c] at e
    walk_at "w"
    exact e
  · rw [if_neg c] at e
    walk_at "w"
    exact e
theorem scs_CheckedMode_refusal : NdefX.NScope ["self", "links", "operation", "__class__", "weaker"] ["self", "links", "operation"] ["__class__"] (defScope s_CheckedMode_refusal) := NdefX.nscope_by (by decide +kernel)
theorem ok_CheckedMode_refusal {P : Program} {w : World} {K : PySem.W.Frag} {mg : Str → Option Value} {base : Heap} {a : AD} (T : Txt P K mg a) (G_GuardedMode_refusal : FnA P w K mg base 8 a.f_GuardedMode_refusal ["self", "links", "operation"] (sp_GuardedMode_refusal a)) (G__is_local : FnA P w K mg base 3 a.f__is_local ["links", "operation"] (sp__is_local a)) : FnA P w K mg base 9 a.f_CheckedMode_refusal ["self", "links", "operation"] (sp_CheckedMode_refusal a) := by
  refine FnA.ofSup (m := "refusal") (i := 4) (e := _) (e2 := _) (rest := _) T.sf_CheckedMode_refusal scs_CheckedMode_refusal rfl (fun vs H Q E h => by first | (obtain ⟨rfl, _⟩ := h; rfl) | (obtain ⟨_, rfl, _⟩ := h; rfl) | (obtain ⟨_, _, rfl, _⟩ := h; rfl) | (obtain ⟨_, _, _, rfl, _⟩ := h; rfl) | (obtain ⟨_, _, _, _, rfl, _⟩ := h; rfl) | (obtain ⟨_, _, _, _, _, rfl, _⟩ := h; rfl) | (obtain ⟨_, _, _, _, _, _, rfl, _⟩ := h; rfl) | (obtain ⟨_, _, _, _, _, _, _, rfl, _⟩ := h; rfl) | (obtain ⟨_, _, _, _, _, _, _, _, rfl, _⟩ := h; rfl) | (obtain ⟨_, _, _, _, _, _, _, _, _, rfl, _⟩ := h; rfl) | (obtain ⟨_, _, _, _, _, _, _, _, _, _, rfl, _⟩ := h; rfl) | (obtain ⟨_, _, _, _, _, _, _, _, _, _, _, rfl, _⟩ := h; rfl) | (obtain ⟨_, _, _, _, _, _, _, _, _, _, _, _, rfl, _⟩ := h; rfl) | (obtain ⟨_, _, _, _, _, _, _, _, _, _, _, _, _, rfl, _⟩ := h; rfl) | (obtain ⟨_, _, _, _, _, _, _, _, _, _, _, _, _, _, rfl, _⟩ := h; rfl) | (obtain ⟨_, _, _, _, _, _, _, _, _, _, _, _, _, _, _, rfl, _⟩ := h; rfl) | (obtain ⟨_, _, _, _, _, _, _, _, _, _, _, _, _, _, _, _, rfl, _⟩ := h; rfl) | (obtain ⟨_, _, _, _, _, _, _, _, _, _, _, _, _, _, _, _, _, rfl, _⟩ := h; rfl) | (obtain ⟨_, _, _, _, _, _, _, _, _, _, _, _, _, _, _, _, _, _, rfl, _⟩ := h; rfl) | (obtain ⟨_, _, _, _, _, _, _, _, _, _, _, _, _, _, _, _, _, _, _, rfl, _⟩ := h; rfl) | (obtain ⟨_, _, _, _, _, _, _, _, _, _, _, _, _, _, _, _, _, _, _, _, rfl, _⟩ := h; rfl) | (obtain ⟨_, _, _, _, _, _, _, _, _, _, _, _, _, _, _, _, _, _, _, _, _, rfl, _⟩ := h; rfl) | (obtain ⟨_, _, _, _, _, _, _, _, _, _, _, _, _, _, _, _, _, _, _, _, _, _, rfl, _⟩ := h; rfl) | (obtain ⟨_, _, _, _, _, _, _, _, _, _, _, _, _, _, _, _, _, _, _, _, _, _, _, rfl, _⟩ := h; rfl)) ⟨_, _, _, _, _, _, rfl, rfl⟩ rfl rfl (by decide) (fun cl cda A outer s H vs Q E hr tk pz h => ?_)
  have hu := hr.units
  obtain ⟨j, x, l, r, f, n, o, s3, d, dx, fs, rfl, hj, h0, h3, hL, W, e1, e2, e3⟩ := h
  have hself := hj
  have hSA : SupAt K a.CheckedMode (clsM a d) "refusal" a.f_GuardedMode_refusal := by
    match d, h0, h3 with
    | 3, _, _ => exact T.sa_CheckedMode_refusal_CheckedMode
  refine ⟨rfl, rfl, _, _, _, _, _, _, _, _, rfl, hself, hSA, (FnA.mono G_GuardedMode_refusal (by decide)), (pa_cons (pv 1) (pa_cons (pv 2) pa_nil)), ?_⟩
  show (_ : L2.St → Hp → (List V → Hp → Prop) → Prop) [some _, some _, some _, none, none] _ _
  walk_at "w"
  refine ⟨j, x, l, r, f, n, o, s3, d, dx, fs, rfl, hj, by omega, h3, hL, W, e1, e2, fun u1 u2 H1 k1 => ?_⟩
  rw [refM_2]
  refine ⟨_, (pss_cons (ps_if (PW.pt (pw_and (pt_cmpA (o_eq hu) (pv 4) pe_str (nomark _)) (pw_and1 (pt_not (pt_tru (pe_callA G__is_local (Room.mono hr (by decide)) T.n__is_local tk (pa_cons (pv 1) (pa_cons (pv 2) pa_nil)))))))) (pss_one (ps_ret (ClX.pe_cval (pe_glob (v := .ref a.CheckedMode) rfl T.c_CheckedMode rfl)))) pss_nil)
      (pss_one (ps_ret (pv 4)))), ?_⟩
  show (_ : Ends → L2.St → Hp → Prop) _ _ _
  dsimp only [ncxS, NdefX.ncx]
  have e := e3 u1 u2
  rw [refM_3] at e
  by_cases c1 : losesP s3 o.natAbs
  · rw [if_pos c1] at e ⊢
    walk_at "w"
    exact e H1 k1
  rw [if_neg c1] at e ⊢
  by_cases c2 : solesP s3 o.natAbs
  · rw [if_pos c2] at e ⊢
    walk_at "w"
    exact e H1 k1
  rw [if_neg c2] at e ⊢
  walk_at "w"
  refine ⟨x, l, r, f, n, o, s3, rfl, hL.kp0 k1, W, ⟨u1, u2⟩, ?_⟩
  have e := e H1 k1
  walk_at "w"
  refine w_iteN (fun c => ?_) (fun c => ?_)
  · rw [if_neg c] at e
    walk_at "w"
    exact e
  · rw [if_pos c] at e
    walk_at "w"
    exact e
def sp_check_mode (a : AD) : Sp := fun vs H Q E => ∃ w : Str, vs = [.str w] ∧ ((∀ k : Nat, k ≤ 3 → w ≠ wordM k) → xBadMode a (.str w) E H) ∧ (∀ k : Nat, k ≤ 3 → w = wordM k → Q .non H)
theorem word_mem {w : Str} : w ∈ (["free", "saving", "guarded", "checked"] : List Str) ↔ ∃ k : Nat, k ≤ 3 ∧ w = wordM k := by
  constructor
  · intro h
    simp only [List.mem_cons, List.not_mem_nil, or_false] at h
    rcases h with h | h | h | h
    · exact ⟨0, by omega, h⟩
    · exact ⟨1, by omega, h⟩
    · exact ⟨2, by omega, h⟩
    · exact ⟨3, by omega, h⟩
  · rintro ⟨k, hk, rfl⟩
    match k, hk with
    | 0, _ => decide
    | 1, _ => decide
    | 2, _ => decide
    | 3, _ => decide
theorem sc_check_mode : FnScope ["mode"] ["mode"] (defScope s_check_mode) := ⟨rfl, rfl, rfl, by decide +kernel, rfl, by decide +kernel, by decide +kernel⟩
theorem ok_check_mode {P : Program} {w : World} {K : PySem.W.Frag} {mg : Str → Option Value} {base : Heap} {a : AD} (T : Txt P K mg a) : FnA P w K mg base 2 a.f_check_mode ["mode"] (sp_check_mode a) := by
  obtain ⟨fd, F, b⟩ := T.F_check_mode
  refine FnA.of F sc_check_mode b (fun vs H Q E h => by first | (obtain ⟨rfl, _⟩ := h; rfl) | (obtain ⟨_, rfl, _⟩ := h; rfl) | (obtain ⟨_, _, rfl, _⟩ := h; rfl) | (obtain ⟨_, _, _, rfl, _⟩ := h; rfl) | (obtain ⟨_, _, _, _, rfl, _⟩ := h; rfl) | (obtain ⟨_, _, _, _, _, rfl, _⟩ := h; rfl) | (obtain ⟨_, _, _, _, _, _, rfl, _⟩ := h; rfl) | (obtain ⟨_, _, _, _, _, _, _, rfl, _⟩ := h; rfl) | (obtain ⟨_, _, _, _, _, _, _, _, rfl, _⟩ := h; rfl) | (obtain ⟨_, _, _, _, _, _, _, _, _, rfl, _⟩ := h; rfl) | (obtain ⟨_, _, _, _, _, _, _, _, _, _, rfl, _⟩ := h; rfl) | (obtain ⟨_, _, _, _, _, _, _, _, _, _, _, rfl, _⟩ := h; rfl) | (obtain ⟨_, _, _, _, _, _, _, _, _, _, _, _, rfl, _⟩ := h; rfl) | (obtain ⟨_, _, _, _, _, _, _, _, _, _, _, _, _, rfl, _⟩ := h; rfl) | (obtain ⟨_, _, _, _, _, _, _, _, _, _, _, _, _, _, rfl, _⟩ := h; rfl) | (obtain ⟨_, _, _, _, _, _, _, _, _, _, _, _, _, _, _, rfl, _⟩ := h; rfl) | (obtain ⟨_, _, _, _, _, _, _, _, _, _, _, _, _, _, _, _, rfl, _⟩ := h; rfl) | (obtain ⟨_, _, _, _, _, _, _, _, _, _, _, _, _, _, _, _, _, rfl, _⟩ := h; rfl) | (obtain ⟨_, _, _, _, _, _, _, _, _, _, _, _, _, _, _, _, _, _, rfl, _⟩ := h; rfl) | (obtain ⟨_, _, _, _, _, _, _, _, _, _, _, _, _, _, _, _, _, _, _, rfl, _⟩ := h; rfl) | (obtain ⟨_, _, _, _, _, _, _, _, _, _, _, _, _, _, _, _, _, _, _, _, rfl, _⟩ := h; rfl) | (obtain ⟨_, _, _, _, _, _, _, _, _, _, _, _, _, _, _, _, _, _, _, _, _, rfl, _⟩ := h; rfl) | (obtain ⟨_, _, _, _, _, _, _, _, _, _, _, _, _, _, _, _, _, _, _, _, _, _, rfl, _⟩ := h; rfl) | (obtain ⟨_, _, _, _, _, _, _, _, _, _, _, _, _, _, _, _, _, _, _, _, _, _, _, rfl, _⟩ := h; rfl)) (fun cdv A outer s H vs Q E hr tk pz h => ?_)
  have hu := hr.units
  have hrH := L2H.roomH_of hr
  obtain ⟨z, rfl, h1, h2⟩ := h
  refine ⟨_, (pss_one (ps_if (pt_cmpA op_notIn_seq (pv 0) (pe_glob (v := .ref a.k_MODES) rfl T.k_MODES.1 rfl) (by rfl)) (pss_one (L2N.ps_raise rfl tk (Lk.pmk_own T.x_BadMode (List.cons_ne_nil _ _) hr T.c_BadMode (by exact (pa_cons (pv 0) pa_nil)) rfl))) pss_nil)), ?_⟩
  show (_ : Ends → L2.St → Hp → Prop) _ [some _] _
  try dsimp only [L2H.cxH, cxOf]
  walk_at "w"
  refine w_notInK (us := ["free", "saving", "guarded", "checked"]) (T.k_MODES.2 _) ?_
  walk_at "w"
  refine w_iteN (fun c => ?_) (fun c => ?_)
  · walk_at "w"
    exact ⟨rfl, fun d hd => h1 (fun k hk e => c (word_mem.mpr ⟨k, hk, e⟩)) d _ hd upd_same (Kp.refl.new hd)⟩
  · walk_at "w"
    obtain ⟨k, hk, e⟩ := word_mem.mp c
    exact h2 k hk e
def sp_mode_named (a : AD) : Sp := fun vs H Q E => ∃ w : Str, vs = [.str w] ∧ ((∀ k : Nat, k ≤ 3 → w ≠ wordM k) → xBadMode a (.str w) E H) ∧ (∀ k : Nat, k ≤ 3 → w = wordM k → ∀ j dx H', H j = none → Kp [] H H' → H' j = some (.ins (clsM a k) dx []) → Q (.ref j) H')
theorem word_inj {i k : Nat} (hi : i ≤ 3) (hk : k ≤ 3) (h : wordM i = wordM k) : i = k := by
  match i, k, hi, hk with
  | 0, 0, _, _ => rfl
  | 1, 1, _, _ => rfl
  | 2, 2, _, _ => rfl
  | 3, 3, _, _ => rfl
  | 0, 1, _, _ => exact absurd h (by decide)
  | 0, 2, _, _ => exact absurd h (by decide)
  | 0, 3, _, _ => exact absurd h (by decide)
  | 1, 0, _, _ => exact absurd h (by decide)
  | 1, 2, _, _ => exact absurd h (by decide)
  | 1, 3, _, _ => exact absurd h (by decide)
  | 2, 0, _, _ => exact absurd h (by decide)
  | 2, 1, _, _ => exact absurd h (by decide)
  | 2, 3, _, _ => exact absurd h (by decide)
  | 3, 0, _, _ => exact absurd h (by decide)
  | 3, 1, _, _ => exact absurd h (by decide)
  | 3, 2, _, _ => exact absurd h (by decide)
theorem Kp.made {H : Hp} {x dx : Addr} {o o2 : HO} (hx : H x = none) (hd : H dx = none) : Kp [] H (upd (upd H dx o) x o2) := fun c q h1 _ => by
  rw [upd_ne (ne_of_none h1 hx), upd_ne (ne_of_none h1 hd)]
  exact h1
theorem sc_mode_named : FnScope ["mode"] ["mode"] (defScope s_mode_named) := ⟨rfl, rfl, rfl, by decide +kernel, rfl, by decide +kernel, by decide +kernel⟩
theorem ok_mode_named {P : Program} {w : World} {K : PySem.W.Frag} {mg : Str → Option Value} {base : Heap} {a : AD} (T : Txt P K mg a) (G_check_mode : FnA P w K mg base 2 a.f_check_mode ["mode"] (sp_check_mode a)) : FnA P w K mg base 3 a.f_mode_named ["mode"] (sp_mode_named a) := by
  obtain ⟨fd, F, b⟩ := T.F_mode_named
  refine FnA.of F sc_mode_named b (fun vs H Q E h => by first | (obtain ⟨rfl, _⟩ := h; rfl) | (obtain ⟨_, rfl, _⟩ := h; rfl) | (obtain ⟨_, _, rfl, _⟩ := h; rfl) | (obtain ⟨_, _, _, rfl, _⟩ := h; rfl) | (obtain ⟨_, _, _, _, rfl, _⟩ := h; rfl) | (obtain ⟨_, _, _, _, _, rfl, _⟩ := h; rfl) | (obtain ⟨_, _, _, _, _, _, rfl, _⟩ := h; rfl) | (obtain ⟨_, _, _, _, _, _, _, rfl, _⟩ := h; rfl) | (obtain ⟨_, _, _, _, _, _, _, _, rfl, _⟩ := h; rfl) | (obtain ⟨_, _, _, _, _, _, _, _, _, rfl, _⟩ := h; rfl) | (obtain ⟨_, _, _, _, _, _, _, _, _, _, rfl, _⟩ := h; rfl) | (obtain ⟨_, _, _, _, _, _, _, _, _, _, _, rfl, _⟩ := h; rfl) | (obtain ⟨_, _, _, _, _, _, _, _, _, _, _, _, rfl, _⟩ := h; rfl) | (obtain ⟨_, _, _, _, _, _, _, _, _, _, _, _, _, rfl, _⟩ := h; rfl) | (obtain ⟨_, _, _, _, _, _, _, _, _, _, _, _, _, _, rfl, _⟩ := h; rfl) | (obtain ⟨_, _, _, _, _, _, _, _, _, _, _, _, _, _, _, rfl, _⟩ := h; rfl) | (obtain ⟨_, _, _, _, _, _, _, _, _, _, _, _, _, _, _, _, rfl, _⟩ := h; rfl) | (obtain ⟨_, _, _, _, _, _, _, _, _, _, _, _, _, _, _, _, _, rfl, _⟩ := h; rfl) | (obtain ⟨_, _, _, _, _, _, _, _, _, _, _, _, _, _, _, _, _, _, rfl, _⟩ := h; rfl) | (obtain ⟨_, _, _, _, _, _, _, _, _, _, _, _, _, _, _, _, _, _, _, rfl, _⟩ := h; rfl) | (obtain ⟨_, _, _, _, _, _, _, _, _, _, _, _, _, _, _, _, _, _, _, _, rfl, _⟩ := h; rfl) | (obtain ⟨_, _, _, _, _, _, _, _, _, _, _, _, _, _, _, _, _, _, _, _, _, rfl, _⟩ := h; rfl) | (obtain ⟨_, _, _, _, _, _, _, _, _, _, _, _, _, _, _, _, _, _, _, _, _, _, rfl, _⟩ := h; rfl) | (obtain ⟨_, _, _, _, _, _, _, _, _, _, _, _, _, _, _, _, _, _, _, _, _, _, _, rfl, _⟩ := h; rfl)) (fun cdv A outer s H vs Q E hr tk pz h => ?_)
  have hu := hr.units
  have hrH := L2H.roomH_of hr
  obtain ⟨z, rfl, h1, h2⟩ := h
  refine ⟨_, (pss_cons (ps_expr (pe_callA G_check_mode (Room.mono hr (by decide)) T.n_check_mode tk (pa_cons (pv 0) pa_nil)))
      (pss_cons (ps_if (pt_cmpA (o_eq hu) (pv 0) (ClX.pe_cval (pe_glob (v := .ref a.SavingMode) rfl T.c_SavingMode rfl)) (nomark _)) (pss_one (ps_ret (pe_make0c T.m0_SavingMode T.c_SavingMode))) pss_nil)
      (pss_cons (ps_if (pt_cmpA (o_eq hu) (pv 0) (ClX.pe_cval (pe_glob (v := .ref a.GuardedMode) rfl T.c_GuardedMode rfl)) (nomark _)) (pss_one (ps_ret (pe_make0c T.m0_GuardedMode T.c_GuardedMode))) pss_nil)
      (pss_cons (ps_if (pt_cmpA (o_eq hu) (pv 0) (ClX.pe_cval (pe_glob (v := .ref a.CheckedMode) rfl T.c_CheckedMode rfl)) (nomark _)) (pss_one (ps_ret (pe_make0c T.m0_CheckedMode T.c_CheckedMode))) pss_nil)
      (pss_one (ps_ret (pe_make0c T.m0_FreeMode T.c_FreeMode))))))), ?_⟩
  show (_ : Ends → L2.St → Hp → Prop) _ [some _] _
  try dsimp only [L2H.cxH, cxOf]
  walk_at "w"
  refine ⟨z, rfl, h1, fun k hk hz => ?_⟩
  have q := h2 k hk hz
  subst hz
  match k, hk with
  | 0, _ =>
    walk_at "w"
    intro j dx hj hd hn
    walk_at "w"
    exact q j dx _ hj (Kp.made hj hd) upd_same
  | 1, _ =>
    walk_at "w"
    intro j dx hj hd hn
    walk_at "w"
    exact q j dx _ hj (Kp.made hj hd) upd_same
  | 2, _ =>
    walk_at "w"
    intro j dx hj hd hn
    walk_at "w"
    exact q j dx _ hj (Kp.made hj hd) upd_same
  | 3, _ =>
    walk_at "w"
    intro j dx hj hd hn
    walk_at "w"
    exact q j dx _ hj (Kp.made hj hd) upd_same
/-- the classes of the modes, with what refusal keeps -/
abbrev dsM (a : AD) : List DM := [⟨a.FreeMode, a.f_FreeMode_refusal, ["self", "links", "operation"], sp_FreeMode_refusal a⟩, ⟨a.SavingMode, a.f_SavingMode_refusal, ["self", "links", "operation"], sp_SavingMode_refusal a⟩, ⟨a.GuardedMode, a.f_GuardedMode_refusal, ["self", "links", "operation"], sp_GuardedMode_refusal a⟩, ⟨a.CheckedMode, a.f_CheckedMode_refusal, ["self", "links", "operation"], sp_CheckedMode_refusal a⟩]
theorem w_judge {a : AD} {k : Nat} (hk : k ≤ 3) {H : Hp} {m : Str} {kk : Sp → V → Hp → Prop} {j dx : Addr} {fs : List (Str × V)} (hj : H j = some (.ins (clsM a k) dx fs)) (l : fs.lookup m = none) (q : kk (refSp a k) (.ref j) H) : aMethD (m := m) (dsM a) kk (.ref j) H := by
  match k, hk with
  | 0, _ => exact w_methD _ (.head _) hj l q
  | 1, _ => exact w_methD _ (.tail _ (.head _)) hj l q
  | 2, _ => exact w_methD _ (.tail _ (.tail _ (.head _))) hj l q
  | 3, _ => exact w_methD _ (.tail _ (.tail _ (.tail _ (.head _)))) hj l q
def sp_admits (a : AD) : Sp := fun vs H Q E => ∃ (x l r f : Addr) (n o : Int) (s : St3') (w : Str), vs = [.ref x, .int o, .str w] ∧ LkS a H x l r f n s ∧ WFs n s ∧ ((∀ k : Nat, k ≤ 3 → w ≠ wordM k) → xBadMode a (.str w) E H) ∧
  ∀ k : Nat, k ≤ 3 → w = wordM k → (∀ H', Kp [] H H' → legSp a n o 0 s.2.2 H' E (∀ H2, Kp [] H' H2 → Q (.bl (decide (refM s o k = ""))) H2))
theorem sc_admits : FnScope ["links", "operation", "mode", "judge"] ["links", "operation", "mode"] (defScope s_admits) := ⟨rfl, rfl, rfl, by decide +kernel, rfl, by decide +kernel, by decide +kernel⟩
theorem ok_admits {P : Program} {w : World} {K : PySem.W.Frag} {mg : Str → Option Value} {base : Heap} {a : AD} (T : Txt P K mg a) (G_mode_named : FnA P w K mg base 3 a.f_mode_named ["mode"] (sp_mode_named a)) (G_FreeMode_refusal : FnA P w K mg base 4 a.f_FreeMode_refusal ["self", "links", "operation"] (sp_FreeMode_refusal a)) (G_SavingMode_refusal : FnA P w K mg base 7 a.f_SavingMode_refusal ["self", "links", "operation"] (sp_SavingMode_refusal a)) (G_GuardedMode_refusal : FnA P w K mg base 8 a.f_GuardedMode_refusal ["self", "links", "operation"] (sp_GuardedMode_refusal a)) (G_CheckedMode_refusal : FnA P w K mg base 9 a.f_CheckedMode_refusal ["self", "links", "operation"] (sp_CheckedMode_refusal a)) : FnK P w K mg base 10 a.f_admits ["links", "operation", "mode"] (sp_admits a) 2 ["mode"] [.str "free"] := by
  obtain ⟨fd, F, b⟩ := T.F_admits
  refine FnK.of F sc_admits b (fun vs H Q E h => by first | (obtain ⟨rfl, _⟩ := h; rfl) | (obtain ⟨_, rfl, _⟩ := h; rfl) | (obtain ⟨_, _, rfl, _⟩ := h; rfl) | (obtain ⟨_, _, _, rfl, _⟩ := h; rfl) | (obtain ⟨_, _, _, _, rfl, _⟩ := h; rfl) | (obtain ⟨_, _, _, _, _, rfl, _⟩ := h; rfl) | (obtain ⟨_, _, _, _, _, _, rfl, _⟩ := h; rfl) | (obtain ⟨_, _, _, _, _, _, _, rfl, _⟩ := h; rfl) | (obtain ⟨_, _, _, _, _, _, _, _, rfl, _⟩ := h; rfl) | (obtain ⟨_, _, _, _, _, _, _, _, _, rfl, _⟩ := h; rfl) | (obtain ⟨_, _, _, _, _, _, _, _, _, _, rfl, _⟩ := h; rfl) | (obtain ⟨_, _, _, _, _, _, _, _, _, _, _, rfl, _⟩ := h; rfl) | (obtain ⟨_, _, _, _, _, _, _, _, _, _, _, _, rfl, _⟩ := h; rfl) | (obtain ⟨_, _, _, _, _, _, _, _, _, _, _, _, _, rfl, _⟩ := h; rfl) | (obtain ⟨_, _, _, _, _, _, _, _, _, _, _, _, _, _, rfl, _⟩ := h; rfl) | (obtain ⟨_, _, _, _, _, _, _, _, _, _, _, _, _, _, _, rfl, _⟩ := h; rfl) | (obtain ⟨_, _, _, _, _, _, _, _, _, _, _, _, _, _, _, _, rfl, _⟩ := h; rfl) | (obtain ⟨_, _, _, _, _, _, _, _, _, _, _, _, _, _, _, _, _, rfl, _⟩ := h; rfl) | (obtain ⟨_, _, _, _, _, _, _, _, _, _, _, _, _, _, _, _, _, _, rfl, _⟩ := h; rfl) | (obtain ⟨_, _, _, _, _, _, _, _, _, _, _, _, _, _, _, _, _, _, _, rfl, _⟩ := h; rfl) | (obtain ⟨_, _, _, _, _, _, _, _, _, _, _, _, _, _, _, _, _, _, _, _, rfl, _⟩ := h; rfl) | (obtain ⟨_, _, _, _, _, _, _, _, _, _, _, _, _, _, _, _, _, _, _, _, _, rfl, _⟩ := h; rfl) | (obtain ⟨_, _, _, _, _, _, _, _, _, _, _, _, _, _, _, _, _, _, _, _, _, _, rfl, _⟩ := h; rfl) | (obtain ⟨_, _, _, _, _, _, _, _, _, _, _, _, _, _, _, _, _, _, _, _, _, _, _, rfl, _⟩ := h; rfl)) (fun cdv A outer s H vs Q E hr tk pz h => ?_)
  have hu := hr.units
  have hrH := L2H.roomH_of hr
  obtain ⟨x, l, r, f, n, o, s3, z, rfl, hL, W, h1, h2⟩ := h
  refine ⟨_, (pss_cons (ps_set (i := 3) sc_admits.nd rfl (Or.inl rfl) (pe_callA G_mode_named (Room.mono hr (by decide)) T.n_mode_named tk (pa_cons (pv 2) pa_nil)))
      (pss_one (ps_ret (pe_cmpR (o_eq hu) (pe_methD (pl := _) (k := 9) (ds := [⟨a.FreeMode, a.f_FreeMode_refusal, ["self", "links", "operation"], (sp_FreeMode_refusal a)⟩, ⟨a.SavingMode, a.f_SavingMode_refusal, ["self", "links", "operation"], (sp_SavingMode_refusal a)⟩, ⟨a.GuardedMode, a.f_GuardedMode_refusal, ["self", "links", "operation"], (sp_GuardedMode_refusal a)⟩, ⟨a.CheckedMode, a.f_CheckedMode_refusal, ["self", "links", "operation"], (sp_CheckedMode_refusal a)⟩]) (List.forall_mem_cons.mpr ⟨⟨T.cl_FreeMode, T.me_FreeMode_refusal, FnA.mono G_FreeMode_refusal (by decide)⟩, List.forall_mem_cons.mpr ⟨⟨T.cl_SavingMode, T.me_SavingMode_refusal, FnA.mono G_SavingMode_refusal (by decide)⟩, List.forall_mem_cons.mpr ⟨⟨T.cl_GuardedMode, T.me_GuardedMode_refusal, FnA.mono G_GuardedMode_refusal (by decide)⟩, List.forall_mem_cons.mpr ⟨⟨T.cl_CheckedMode, T.me_CheckedMode_refusal, FnA.mono G_CheckedMode_refusal (by decide)⟩, fun _ h => absurd h List.not_mem_nil⟩⟩⟩⟩) (Room.mono hr (by decide)) tk (pv 3) (pa_cons (pv 0) (pa_cons (pv 1) pa_nil))) pe_str (nomark _))))), ?_⟩
  show (_ : Ends → L2.St → Hp → Prop) _ [some _, some _, some _, none] _
  try dsimp only [L2H.cxH, cxOf]
  obtain ⟨⟨dx, hx⟩, _⟩ := id hL
  walk_at "w"
  refine ⟨z, rfl, h1, fun k hk hz j dj H1 hj0 k1 hj => ?_⟩
  obtain ⟨e1, e2, e3⟩ := h2 k hk hz H1 k1
  walk_at "w"
  refine w_judge hk hj rfl ?_
  walk_at "w"
  refine ⟨j, x, l, r, f, n, o, s3, k, dj, _, rfl, hj, Nat.le_refl _, hk, hL.kp0 k1, W, e1, e2, fun u1 u2 H2 k2 => ?_⟩
  walk_at "w"
  exact e3 u1 u2 H2 k2
/-- the operation of the node v -/
def opOn (s : St3') (v : Int) : Int := if s.2.2.getD v.toNat default = true then v else -v
def admL (s : St3') (n : Int) (k : Nat) : List Int := ((List.range n.toNat).map fun i : Nat => opOn s ((i : Int) + 1)).filter fun o => decide (refM s o k = "")
def sp_admitted (a : AD) : Sp := fun vs H Q E => ∃ (x l r f : Addr) (n : Int) (s : St3') (w : Str), vs = [.ref x, .str w] ∧ LkS a H x l r f n s ∧ WFs n s ∧ ((∀ k : Nat, k ≤ 3 → w ≠ wordM k) → xBadMode a (.str w) E H) ∧
  ∀ k : Nat, k ≤ 3 → w = wordM k → ∀ p H', H p = none → Kp [] H H' → H' p = some (.lst ((admL s n k).map V.int)) → Q (.ref p) H'
theorem opOn_abs (s : St3') {v : Int} (h : 1 ≤ v) : ((opOn s v).natAbs : Int) = v := by
  unfold opOn
  split <;> omega
theorem opOn_ok {n : Int} (s : St3') {v : Int} (h : 1 ≤ v) (h2 : v ≤ n) : OkAt n s (opOn s v) := by
  have e := opOn_abs s h
  refine ⟨⟨by omega, by omega⟩, ?_⟩
  rw [show (opOn s v).natAbs = v.toNat by omega]
  unfold opOn
  by_cases c : s.2.2.getD v.toNat default = true
  · rw [if_pos c, c, decide_eq_false (by omega)]
    decide
  · rw [if_neg c, show s.2.2.getD v.toNat default = false by simpa using c, decide_eq_true (by omega)]
    decide
theorem sc_admitted : FnScope ["links", "mode", "judge", "operations", "node", "operation"] ["links", "mode"] (defScope s_admitted) := ⟨rfl, rfl, rfl, by decide +kernel, rfl, by decide +kernel, by decide +kernel⟩
theorem ok_admitted {P : Program} {w : World} {K : PySem.W.Frag} {mg : Str → Option Value} {base : Heap} {a : AD} (T : Txt P K mg a) (G_mode_named : FnA P w K mg base 3 a.f_mode_named ["mode"] (sp_mode_named a)) (G_Links_operation_on : FnA P w K mg base 2 a.f_Links_operation_on ["self", "node"] (sp_Links_operation_on a)) (G_FreeMode_refusal : FnA P w K mg base 4 a.f_FreeMode_refusal ["self", "links", "operation"] (sp_FreeMode_refusal a)) (G_SavingMode_refusal : FnA P w K mg base 7 a.f_SavingMode_refusal ["self", "links", "operation"] (sp_SavingMode_refusal a)) (G_GuardedMode_refusal : FnA P w K mg base 8 a.f_GuardedMode_refusal ["self", "links", "operation"] (sp_GuardedMode_refusal a)) (G_CheckedMode_refusal : FnA P w K mg base 9 a.f_CheckedMode_refusal ["self", "links", "operation"] (sp_CheckedMode_refusal a)) : FnK P w K mg base 10 a.f_admitted ["links", "mode"] (sp_admitted a) 1 ["mode"] [.str "free"] := by
  obtain ⟨fd, F, b⟩ := T.F_admitted
  refine FnK.of F sc_admitted b (fun vs H Q E h => by first | (obtain ⟨rfl, _⟩ := h; rfl) | (obtain ⟨_, rfl, _⟩ := h; rfl) | (obtain ⟨_, _, rfl, _⟩ := h; rfl) | (obtain ⟨_, _, _, rfl, _⟩ := h; rfl) | (obtain ⟨_, _, _, _, rfl, _⟩ := h; rfl) | (obtain ⟨_, _, _, _, _, rfl, _⟩ := h; rfl) | (obtain ⟨_, _, _, _, _, _, rfl, _⟩ := h; rfl) | (obtain ⟨_, _, _, _, _, _, _, rfl, _⟩ := h; rfl) | (obtain ⟨_, _, _, _, _, _, _, _, rfl, _⟩ := h; rfl) | (obtain ⟨_, _, _, _, _, _, _, _, _, rfl, _⟩ := h; rfl) | (obtain ⟨_, _, _, _, _, _, _, _, _, _, rfl, _⟩ := h; rfl) | (obtain ⟨_, _, _, _, _, _, _, _, _, _, _, rfl, _⟩ := h; rfl) | (obtain ⟨_, _, _, _, _, _, _, _, _, _, _, _, rfl, _⟩ := h; rfl) | (obtain ⟨_, _, _, _, _, _, _, _, _, _, _, _, _, rfl, _⟩ := h; rfl) | (obtain ⟨_, _, _, _, _, _, _, _, _, _, _, _, _, _, rfl, _⟩ := h; rfl) | (obtain ⟨_, _, _, _, _, _, _, _, _, _, _, _, _, _, _, rfl, _⟩ := h; rfl) | (obtain ⟨_, _, _, _, _, _, _, _, _, _, _, _, _, _, _, _, rfl, _⟩ := h; rfl) | (obtain ⟨_, _, _, _, _, _, _, _, _, _, _, _, _, _, _, _, _, rfl, _⟩ := h; rfl) | (obtain ⟨_, _, _, _, _, _, _, _, _, _, _, _, _, _, _, _, _, _, rfl, _⟩ := h; rfl) | (obtain ⟨_, _, _, _, _, _, _, _, _, _, _, _, _, _, _, _, _, _, _, rfl, _⟩ := h; rfl) | (obtain ⟨_, _, _, _, _, _, _, _, _, _, _, _, _, _, _, _, _, _, _, _, rfl, _⟩ := h; rfl) | (obtain ⟨_, _, _, _, _, _, _, _, _, _, _, _, _, _, _, _, _, _, _, _, _, rfl, _⟩ := h; rfl) | (obtain ⟨_, _, _, _, _, _, _, _, _, _, _, _, _, _, _, _, _, _, _, _, _, _, rfl, _⟩ := h; rfl) | (obtain ⟨_, _, _, _, _, _, _, _, _, _, _, _, _, _, _, _, _, _, _, _, _, _, _, rfl, _⟩ := h; rfl)) (fun cdv A outer s H vs Q E hr tk pz h => ?_)
  have hu := hr.units
  have hrH := L2H.roomH_of hr
  obtain ⟨x, l, r, f, n, s3, z, rfl, hL, W, h1, h2⟩ := h
  refine ⟨_, (pss_cons (ps_set (i := 2) sc_admitted.nd rfl (Or.inl rfl) (pe_callA G_mode_named (Room.mono hr (by decide)) T.n_mode_named tk (pa_cons (pv 1) pa_nil)))
      (pss_cons (ps_set (i := 3) sc_admitted.nd rfl (Or.inl rfl) (pe_lst pa_nil))
      (pss_cons (ps_for pz rfl (pi_range2 rfl T.b_range (pa_cons pe_int (pa_cons (pe_op o_add (pe_fld (pv 0) rfl) pe_int) pa_nil))) (pg_name (i := 4) sc_admitted.nd rfl (Or.inl rfl))
      (pss_cons (ps_set (i := 5) sc_admitted.nd rfl (Or.inl rfl) (pe_methS (pl := _) G_Links_operation_on (Room.mono hr (by decide)) T.cl_Links T.me_Links_operation_on tk (pv 0) (pa_cons (pv 4) pa_nil)))
      (pss_one (ps_if (pt_cmpA (o_eq hu) (pe_methD (pl := _) (k := 9) (ds := [⟨a.FreeMode, a.f_FreeMode_refusal, ["self", "links", "operation"], (sp_FreeMode_refusal a)⟩, ⟨a.SavingMode, a.f_SavingMode_refusal, ["self", "links", "operation"], (sp_SavingMode_refusal a)⟩, ⟨a.GuardedMode, a.f_GuardedMode_refusal, ["self", "links", "operation"], (sp_GuardedMode_refusal a)⟩, ⟨a.CheckedMode, a.f_CheckedMode_refusal, ["self", "links", "operation"], (sp_CheckedMode_refusal a)⟩]) (List.forall_mem_cons.mpr ⟨⟨T.cl_FreeMode, T.me_FreeMode_refusal, FnA.mono G_FreeMode_refusal (by decide)⟩, List.forall_mem_cons.mpr ⟨⟨T.cl_SavingMode, T.me_SavingMode_refusal, FnA.mono G_SavingMode_refusal (by decide)⟩, List.forall_mem_cons.mpr ⟨⟨T.cl_GuardedMode, T.me_GuardedMode_refusal, FnA.mono G_GuardedMode_refusal (by decide)⟩, List.forall_mem_cons.mpr ⟨⟨T.cl_CheckedMode, T.me_CheckedMode_refusal, FnA.mono G_CheckedMode_refusal (by decide)⟩, fun _ h => absurd h List.not_mem_nil⟩⟩⟩⟩) (Room.mono hr (by decide)) tk (pv 2) (pa_cons (pv 0) (pa_cons (pv 5) pa_nil))) pe_str (nomark _)) (pss_one (ps_expr (pe_bm PySem.F.plainAttrs_list PySem.F.slot_list_append PySem.F.type_list_append mt_append (pv 3) (pa_cons (pv 5) pa_nil)))) pss_nil))))
      (pss_one (ps_ret (pv 3)))))), ?_⟩
  show (_ : Ends → L2.St → Hp → Prop) _ [some _, some _, none, none, none, none] _
  try dsimp only [L2H.cxH, cxOf]
  obtain ⟨⟨dx, hx⟩, _⟩ := id hL
  have n0 := WF.n0 W
  have n1 := WF.n1 W
  walk_at "w"
  refine ⟨z, rfl, h1, fun k hk hz j dj H1 hj0 k1 hj => ?_⟩
  have hx1 := k1.at0 hx
  walk_at "w"
  intro p hp
  have k2 := k1.trans (Kp.refl.new (ms := []) (o := .lst []) hp)
  have hp1 : upd H1 p (.lst []) p = some (.lst []) := upd_same
  have hj2 := (Kp.refl.new (ms := []) (o := .lst []) hp).at0 hj
  have hpn : H p = none := k1.free hp
  generalize upd H1 p (.lst []) = H2 at k2 hp1 hj2 ⊢
  have hx2 := k2.at0 hx
  have hxp : x ≠ p := ne_of_none hx hpn
  have hjp : j ≠ p := ne_of_none hj hp
  walk_at "w"
  refine w_rng2 (lo := 1) (n := n + 1) (by omega) (by omega) (by omega) (by omega) (fun i σ' H' => (∃ y y2, σ' = [some (.ref x), some (.str z), some (.ref j), some (.ref p), y, y2]) ∧ Kp [] H H' ∧ Kp [p] H2 H' ∧ H' p = some (.lst ((((List.range i).map fun i : Nat => opOn s3 ((i : Int) + 1)).filter fun o => decide (refM s3 o k = "")).map V.int))) ⟨⟨_, _, rfl⟩, k2, Kp.refl, hp1⟩ ?_ ?_
  · rintro i σ' H' hi ⟨⟨y, y2, rfl⟩, ka, kb, hP⟩
    have hOi := (hL.kp0 ka).obj W
    have hxi := ka.at0 hx
    have hji : H' j = some (.ins (clsM a k) dj []) := kb j _ hj2 (by simpa using hjp)
    walk_at "w"
    refine ⟨x, l, r, f, n, _, _, _, _, rfl, hOi, by omega, by omega, ?_⟩
    rw [show (if s3.2.2.getD (1 + (i : Int)).toNat default = true then (1 + (i : Int)) else -(1 + (i : Int))) = opOn s3 ((i : Int) + 1) by unfold opOn; rw [show 1 + (i : Int) = (i : Int) + 1 by omega]]
    have ok := opOn_ok (n := n) s3 (v := (i : Int) + 1) (by omega) (by omega)
    walk_at "w"
    refine w_judge hk hji rfl ?_
    walk_at "w"
    refine ⟨j, x, l, r, f, n, _, s3, k, dj, _, rfl, hji, Nat.le_refl _, hk, hL.kp0 ka, W, fun z => absurd ok.1 z, fun _ z => absurd z ok.2, fun _ _ H4 k4 => ?_⟩
    have hP4 := k4.at0 hP
    walk_at "w"
    rw [List.range_succ, List.map_append, List.filter_append, List.map_append]
    refine w_ite (fun c => ?_) (fun c => ?_)
    · walk_at "w"
      refine w_appL hP4 (by rw [List.length_map, sizeLine_eq]; have := List.length_filter_le (fun o => decide (refM s3 o k = "")) ((List.range i).map fun i : Nat => opOn s3 ((i : Int) + 1)); simp at this; omega) ?_
      refine ⟨⟨_, _, rfl⟩, (ka.trans k4).own hpn, (kb.trans0 k4).mut (by simp), ?_⟩
      rw [upd_same]
      simp [c]
    · walk_at "w"
      refine ⟨⟨_, _, rfl⟩, ka.trans k4, kb.trans0 k4, ?_⟩
      rw [hP4]
      simp [c]
  · rintro σ' H' ⟨⟨y, y2, rfl⟩, ka, kb, hP⟩
    walk_at "w"
    refine h2 k hk hz p H' hpn ka ?_
    rw [hP]
    unfold admL
    rw [show (n + 1 - 1).toNat = n.toNat by omega]

theorem rn_len {n : Int} {s : List Int × List Int × List Bool} (W : WFs n s) : (s.1 ++ [n + 2]).length = (n + 2).toNat := by
  have := WF.n0 W
  rw [List.length_append, WF.hR W]; simp; omega
theorem ap_do {a : AD} {H : Hp} {Q : VK} {E : XK} {x l r f : Addr} {n o : Int} {s : List Int × List Int × List Bool} (W : WFs n s) (hO : OkAt n s o) (h : LkS a H x l r f n s) (k : ∀ H', LkS a H' x l r f n (stS s o) → Kp [l, r, f] H H' → Q .non H') : sp_Links_apply a [.ref x, .int o] H Q E := by
  have ho1 := hO.1.1
  have ho2 := hO.1.2
  have qa := WF.at W (v := o.natAbs) (by omega) ho2
  have eR : (s.1 ++ [n + 2]).getD o.natAbs default = s.1.getD o.natAbs default := gd_app (by rw [WF.hR W]; omega)
  refine ⟨x, l, r, f, n, o, _, _, _, rfl, h, WF.hL W, rn_len W, WF.hF W, fun z => absurd hO.1 z, fun _ z => absurd z hO.2, fun _ _ => ⟨by omega, by omega, by omega, by omega, fun H3 X3 k3 => ?_⟩⟩
  have ea := ap_app W (x := n + 2) hO.1
  rw [ea.1, ea.2] at X3
  exact k H3 X3 k3

/-! ### draws -/
def Bx (H : Hp) (b q : Addr) : Prop := ∃ (ns : List Int) (s1 s2 c : Int), H b = some (.lst [.ref q, .int s1, .int s2, .int c]) ∧ H q = some (.lst (ns.map V.int)) ∧ q ≠ b
theorem Bx.kp {H H' : Hp} {b q : Addr} (B : Bx H b q) (k : Kp [] H H') : Bx H' b q := by
  obtain ⟨ns, s1, s2, c, h1, h2, h3⟩ := B
  exact ⟨ns, s1, s2, c, k.at0 h1, k.at0 h2, h3⟩
theorem Bx.kpm {ms : List Addr} {H H' : Hp} {b q : Addr} (B : Bx H b q) (k : Kp ms H H') (s : ∀ y ∈ [b, q], y ∉ ms) : Bx H' b q := by
  obtain ⟨ns, s1, s2, c, h1, h2, h3⟩ := B
  exact ⟨ns, s1, s2, c, k.at h1 (s b (by simp)), k.at h2 (s q (by simp)), h3⟩
theorem Bx.live {H : Hp} {b q : Addr} (B : Bx H b q) : ∀ y ∈ [b, q], ∃ o, H y = some o := by
  obtain ⟨ns, s1, s2, c, h1, h2, h3⟩ := B
  intro y hy
  simp only [List.mem_cons, List.mem_nil_iff, or_false] at hy
  rcases hy with rfl | rfl
  · exact ⟨_, h1⟩
  · exact ⟨_, h2⟩
theorem Bx.off {H : Hp} {b q p : Addr} (B : Bx H b q) (h : H p = none) : p ∉ [b, q] := fun z => by
  obtain ⟨o, e⟩ := B.live p z
  rw [h] at e; cases e
/-- an address that was free before the draws is free of the box -/
theorem Kp.freeB {H H' : Hp} {b q r : Addr} (k : Kp [b, q] H H') (B : Bx H' b q) (h : H' r = none) : H r = none := k.freeM h B.live
def drSp (b q : Addr) (H : Hp) (Q : VK) (m : Int) : Prop := ∀ (r : Int) (H' : Hp), 0 ≤ r → r < m → Bx H' b q → Kp [b, q] H H' → Q (.int r) H'
def sp__law_take (a : AD) : Sp := fun vs H Q _ => ∃ (b q : Addr) (m : Int), vs = [.ref b, .int m] ∧ Bx H b q ∧ 0 < m ∧ m < 1073741824 ∧ drSp b q H Q m
theorem sc__law_take : FnScope ["_law_purse_here", "_law_many", "_law_cells", "_law_draw"] ["_law_purse_here", "_law_many"] (defScope s__law_take) := ⟨rfl, rfl, rfl, by decide +kernel, rfl, by decide +kernel, by decide +kernel⟩
theorem ok__law_take {P : Program} {w : World} {K : PySem.W.Frag} {mg : Str → Option Value} {base : Heap} {a : AD} (T : Txt P K mg a) : FnA P w K mg base 2 a.f__law_take ["_law_purse_here", "_law_many"] (sp__law_take a) := by
  obtain ⟨fd, F, b⟩ := T.F__law_take
  refine FnA.of F sc__law_take b (fun vs H Q E h => by first | (obtain ⟨rfl, _⟩ := h; rfl) | (obtain ⟨_, rfl, _⟩ := h; rfl) | (obtain ⟨_, _, rfl, _⟩ := h; rfl) | (obtain ⟨_, _, _, rfl, _⟩ := h; rfl) | (obtain ⟨_, _, _, _, rfl, _⟩ := h; rfl) | (obtain ⟨_, _, _, _, _, rfl, _⟩ := h; rfl) | (obtain ⟨_, _, _, _, _, _, rfl, _⟩ := h; rfl) | (obtain ⟨_, _, _, _, _, _, _, rfl, _⟩ := h; rfl) | (obtain ⟨_, _, _, _, _, _, _, _, rfl, _⟩ := h; rfl) | (obtain ⟨_, _, _, _, _, _, _, _, _, rfl, _⟩ := h; rfl) | (obtain ⟨_, _, _, _, _, _, _, _, _, _, rfl, _⟩ := h; rfl) | (obtain ⟨_, _, _, _, _, _, _, _, _, _, _, rfl, _⟩ := h; rfl) | (obtain ⟨_, _, _, _, _, _, _, _, _, _, _, _, rfl, _⟩ := h; rfl) | (obtain ⟨_, _, _, _, _, _, _, _, _, _, _, _, _, rfl, _⟩ := h; rfl) | (obtain ⟨_, _, _, _, _, _, _, _, _, _, _, _, _, _, rfl, _⟩ := h; rfl) | (obtain ⟨_, _, _, _, _, _, _, _, _, _, _, _, _, _, _, rfl, _⟩ := h; rfl) | (obtain ⟨_, _, _, _, _, _, _, _, _, _, _, _, _, _, _, _, rfl, _⟩ := h; rfl) | (obtain ⟨_, _, _, _, _, _, _, _, _, _, _, _, _, _, _, _, _, rfl, _⟩ := h; rfl) | (obtain ⟨_, _, _, _, _, _, _, _, _, _, _, _, _, _, _, _, _, _, rfl, _⟩ := h; rfl) | (obtain ⟨_, _, _, _, _, _, _, _, _, _, _, _, _, _, _, _, _, _, _, rfl, _⟩ := h; rfl) | (obtain ⟨_, _, _, _, _, _, _, _, _, _, _, _, _, _, _, _, _, _, _, _, rfl, _⟩ := h; rfl) | (obtain ⟨_, _, _, _, _, _, _, _, _, _, _, _, _, _, _, _, _, _, _, _, _, rfl, _⟩ := h; rfl) | (obtain ⟨_, _, _, _, _, _, _, _, _, _, _, _, _, _, _, _, _, _, _, _, _, _, rfl, _⟩ := h; rfl) | (obtain ⟨_, _, _, _, _, _, _, _, _, _, _, _, _, _, _, _, _, _, _, _, _, _, _, rfl, _⟩ := h; rfl)) (fun cdv A outer s H vs Q E hr tk pz h => ?_)
  have hu := hr.units
  have hrH := L2H.roomH_of hr
  obtain ⟨b, q, m, rfl, ⟨ns, s1, s2, c, hb, hq, hqb⟩, hm0, hm1, k⟩ := h
  refine ⟨_, (pss_cons (ps_asg (pe_op o_add (pe_ix ix_seq (pv 0) pe_int (fun _ _ => rfl)) pe_int) (pg_sub (pv 0) pe_int set_list))
      (pss_cons (ps_set (i := 2) sc__law_take.nd rfl (Or.inl rfl) (pe_ix ix_seq (pv 0) pe_int (fun _ _ => rfl)))
      (pss_cons (ps_if (pt_tru (pv 2)) (pss_cons (ps_set (i := 3) sc__law_take.nd rfl (Or.inl rfl) (pe_op op_mod (pe_callTy b_intA rfl T.b_int (by decide +kernel) (pa_cons (pe_ix ix_seq (pv 2) pe_int (fun _ _ => rfl)) pa_nil)) (pv 1)))
      (pss_cons (ps_asg (pe_op op_fdiv (pe_ix ix_seq (pv 2) pe_int (fun _ _ => rfl)) (pv 1)) (pg_sub (pv 2) pe_int set_list))
      (pss_cons (ps_if (pt_cmpA (o_eq hu) (pe_ix ix_seq (pv 2) pe_int (fun _ _ => rfl)) pe_int (nomark _)) (pss_one (ps_expr (pe_bm PySem.F.plainAttrs_list PySem.F.slot_list_pop PySem.F.type_list_pop mt_popAt (pv 2) (pa_cons pe_int pa_nil)))) pss_nil)
      (pss_one (ps_ret (pv 3)))))) pss_nil)
      (pss_cons (ps_asg (pe_op op_mod (pe_callTy b_intA rfl T.b_int (by decide +kernel) (pa_cons (pe_op o_add (pe_op o_add (pe_op o_mul (pe_ix ix_seq (pv 0) pe_int (fun _ _ => rfl)) pe_int) (pe_op o_mul (pe_ix ix_seq (pv 0) pe_int (fun _ _ => rfl)) pe_int)) pe_int) pa_nil)) pe_int) (pg_sub (pv 0) pe_int set_list))
      (pss_cons (ps_asg (pe_op op_mod (pe_callTy b_intA rfl T.b_int (by decide +kernel) (pa_cons (pe_op o_add (pe_op o_add (pe_op o_mul (pe_ix ix_seq (pv 0) pe_int (fun _ _ => rfl)) pe_int) (pe_op op_fdiv (pe_ix ix_seq (pv 0) pe_int (fun _ _ => rfl)) pe_int)) pe_int) pa_nil)) pe_int) (pg_sub (pv 0) pe_int set_list))
      (pss_one (ps_ret (pe_op op_mod (pe_callTy b_intA rfl T.b_int (by decide +kernel) (pa_cons (pe_op o_add (pe_op op_fdiv (pe_ix ix_seq (pv 0) pe_int (fun _ _ => rfl)) pe_int) (pe_ix ix_seq (pv 0) pe_int (fun _ _ => rfl))) pa_nil)) (pv 1))))))))), ?_⟩
  show (_ : Ends → L2.St → Hp → Prop) _ [some _, some _, none, none] _
  try dsimp only [L2H.cxH, cxOf]
  have kb : ∀ {H' : Hp} {o : HO}, Kp [b, q] H H' → Kp [b, q] H (upd H' b o) := fun h => h.mut (by simp)
  have kq : ∀ {H' : Hp} {o : HO}, Kp [b, q] H H' → Kp [b, q] H (upd H' q o) := fun h => h.mut (by simp)
  walk_at "w"
  rcases ns with _ | ⟨u, us⟩
  · rw [if_neg (by simp)]
    walk_at "w"
    exact k _ _ (Int.emod_nonneg _ (by omega)) (Int.emod_lt_of_pos _ hm0) ⟨_, _, _, _, upd_same, upd_get hqb (upd_get hqb (upd_get hqb hq)), hqb⟩ (kb (kb (kb Kp.refl)))
  · rw [if_pos (by simp)]
    have hq1 := upd_get (H := H) (o := HO.lst ([V.ref q, V.int s1, V.int s2, V.int c].set (Int.toNat 3) (V.int (c + 1)))) hqb hq
    have hb1 := upd_same (H := H) (a := b) (o := HO.lst ([V.ref q, V.int s1, V.int s2, V.int c].set (Int.toNat 3) (V.int (c + 1))))
    have k1 : Kp [b, q] H _ := kb (o := HO.lst ([V.ref q, V.int s1, V.int s2, V.int c].set (Int.toNat 3) (V.int (c + 1)))) Kp.refl
    generalize upd H b (HO.lst ([V.ref q, V.int s1, V.int s2, V.int c].set (Int.toNat 3) (V.int (c + 1)))) = H1 at hq1 hb1 k1 ⊢
    have hbq : b ≠ q := Ne.symm hqb
    walk_at "w"
    refine w_ite (fun c3 => ?_) (fun c3 => ?_)
    · walk_at "w"
      exact k _ _ (Int.emod_nonneg _ (by omega)) (Int.emod_lt_of_pos _ hm0) ⟨us, _, _, _, upd_get hbq (upd_get hbq hb1), upd_same, hqb⟩ (kq (kq k1))
    · walk_at "w"
      exact k _ _ (Int.emod_nonneg _ (by omega)) (Int.emod_lt_of_pos _ hm0) ⟨_ :: us, _, _, _, upd_get hbq hb1, upd_same, hqb⟩ (kq k1)
theorem SqL.kp' {K : PySem.W.Frag} {H H' : Hp} {p : Addr} {xs : List V} (h : SqL K H p xs) (k : Kp [] H H') : SqL K H' p xs := by
  rcases h with h | h
  · rcases h with h | ⟨o, h⟩
    · exact .inl (.inl (k.at0 h))
    · exact .inl (.inr ⟨o, k.at0 h⟩)
  · exact .inr h
def sp__law_purse (K : PySem.W.Frag) (a : AD) : Sp := fun vs H Q _ => ∃ (p : Addr) (ns : List Int), vs = [.ref p] ∧ SqL K H p (ns.map V.int) ∧ ∀ (b q : Addr) (H' : Hp), H b = none → H q = none → Bx H' b q → Kp [] H H' → Q (.ref b) H'
theorem sc__law_purse : FnScope ["_law_script", "_law_cell", "_law_cells", "_law_seed"] ["_law_script"] (defScope s__law_purse) := ⟨rfl, rfl, rfl, by decide +kernel, rfl, by decide +kernel, by decide +kernel⟩
theorem ok__law_purse {P : Program} {w : World} {K : PySem.W.Frag} {mg : Str → Option Value} {base : Heap} {a : AD} (T : Txt P K mg a) : FnA P w K mg base 2 a.f__law_purse ["_law_script"] (sp__law_purse K a) := by
  obtain ⟨fd, F, b⟩ := T.F__law_purse
  refine FnA.of F sc__law_purse b (fun vs H Q E h => by first | (obtain ⟨rfl, _⟩ := h; rfl) | (obtain ⟨_, rfl, _⟩ := h; rfl) | (obtain ⟨_, _, rfl, _⟩ := h; rfl) | (obtain ⟨_, _, _, rfl, _⟩ := h; rfl) | (obtain ⟨_, _, _, _, rfl, _⟩ := h; rfl) | (obtain ⟨_, _, _, _, _, rfl, _⟩ := h; rfl) | (obtain ⟨_, _, _, _, _, _, rfl, _⟩ := h; rfl) | (obtain ⟨_, _, _, _, _, _, _, rfl, _⟩ := h; rfl) | (obtain ⟨_, _, _, _, _, _, _, _, rfl, _⟩ := h; rfl) | (obtain ⟨_, _, _, _, _, _, _, _, _, rfl, _⟩ := h; rfl) | (obtain ⟨_, _, _, _, _, _, _, _, _, _, rfl, _⟩ := h; rfl) | (obtain ⟨_, _, _, _, _, _, _, _, _, _, _, rfl, _⟩ := h; rfl) | (obtain ⟨_, _, _, _, _, _, _, _, _, _, _, _, rfl, _⟩ := h; rfl) | (obtain ⟨_, _, _, _, _, _, _, _, _, _, _, _, _, rfl, _⟩ := h; rfl) | (obtain ⟨_, _, _, _, _, _, _, _, _, _, _, _, _, _, rfl, _⟩ := h; rfl) | (obtain ⟨_, _, _, _, _, _, _, _, _, _, _, _, _, _, _, rfl, _⟩ := h; rfl) | (obtain ⟨_, _, _, _, _, _, _, _, _, _, _, _, _, _, _, _, rfl, _⟩ := h; rfl) | (obtain ⟨_, _, _, _, _, _, _, _, _, _, _, _, _, _, _, _, _, rfl, _⟩ := h; rfl) | (obtain ⟨_, _, _, _, _, _, _, _, _, _, _, _, _, _, _, _, _, _, rfl, _⟩ := h; rfl) | (obtain ⟨_, _, _, _, _, _, _, _, _, _, _, _, _, _, _, _, _, _, _, rfl, _⟩ := h; rfl) | (obtain ⟨_, _, _, _, _, _, _, _, _, _, _, _, _, _, _, _, _, _, _, _, rfl, _⟩ := h; rfl) | (obtain ⟨_, _, _, _, _, _, _, _, _, _, _, _, _, _, _, _, _, _, _, _, _, rfl, _⟩ := h; rfl) | (obtain ⟨_, _, _, _, _, _, _, _, _, _, _, _, _, _, _, _, _, _, _, _, _, _, rfl, _⟩ := h; rfl) | (obtain ⟨_, _, _, _, _, _, _, _, _, _, _, _, _, _, _, _, _, _, _, _, _, _, _, rfl, _⟩ := h; rfl)) (fun cdv A outer s H vs Q E hr tk pz h => ?_)
  have hu := hr.units
  have hrH := L2H.roomH_of hr
  obtain ⟨p, ns, rfl, hp, k⟩ := h
  refine ⟨_, (pss_cons (ps_setLc (i := 2) (own := [("_law_cell", 1)]) (g := (gName 1)) rfl sc__law_purse.nd rfl rfl (sw_true rfl rfl rfl (by decide +kernel)) (pi_list (pe_slice sl_any (pv 0) po_none (po_some pe_int))) (blkOk_by (own := [("_law_cell", 1)]) (N := ["_law_script", "_law_cell", "_law_cells", "_law_seed"]) (sc := defScope s__law_purse) (by decide +kernel)) (fun _ _ _ _ _ => (pg_name (i := 1) sc__law_purse.nd rfl (Or.inl rfl))) (fun _ _ _ _ _ => (pts_one (pt_cmpA op_ge (pe_callB (b_abs) rfl T.b_abs (by decide +kernel) (pa_cons (pv 1) pa_nil)) (pe_op op_pow pe_int pe_int) (nomark _)))) (fun _ _ _ _ _ => (pe_callB (b_abs) rfl T.b_abs (by decide +kernel) (pa_cons (pv 1) pa_nil))))
      (pss_cons (ps_set (i := 3) sc__law_purse.nd rfl (Or.inl rfl) pe_int)
      (pss_cons (ps_for pz rfl (pi_list (pe_slice sl_any (pv 0) po_none (po_some pe_int))) (pg_name (i := 1) sc__law_purse.nd rfl (Or.inl rfl))
      (pss_one (ps_set (i := 3) sc__law_purse.nd rfl (Or.inl rfl) (pe_op op_mod (pe_callTy b_intA rfl T.b_int (by decide +kernel) (pa_cons (pe_op o_add (pe_op o_add (pe_op o_mul (pv 3) pe_int) (pe_op op_mod (pe_callTy b_intA rfl T.b_int (by decide +kernel) (pa_cons (pv 1) pa_nil)) pe_int)) pe_int) pa_nil)) pe_int))))
      (pss_one (ps_ret (pe_lst (pa_cons (pv 2) (pa_cons (pv 3) (pa_cons pe_int (pa_cons pe_int pa_nil)))))))))), ?_⟩
  show (_ : Ends → L2.St → Hp → Prop) _ [some _, none, none, none] _
  try dsimp only [L2H.cxH, cxOf]
  walk_at "w"
  intro l hl
  have kl := Kp.refl.new (ms := []) (o := .lst ((cut ns none (some 63)).map V.int)) hl
  have hl1 : upd H l (.lst ((cut ns none (some 63)).map V.int)) l = some (.lst ((cut ns none (some 63)).map V.int)) := upd_same
  have hz : (cut ns none (some 63)).length ≤ 63 := by
    unfold cut HT.sIx
    dsimp only
    rw [if_neg (by omega), List.length_take, List.length_drop]
    omega
  generalize upd H l (.lst ((cut ns none (some 63)).map V.int)) = H1 at kl hl1 ⊢
  generalize cut ns none (some 63) = us at hl1 hz
  refine w_lcM (us := us) (f := V.int) (f' := V.int) (fun x => if (10 : Int) ^ Int.toNat 18 ≤ (x.natAbs : Int) then some (x.natAbs : Int) else none) hl1 (by rw [sizeLine_eq]; omega) ?_ ?_
  · intro D i u acc H' hD hu hk hA hlen
    walk_at "w"
    refine ⟨rfl, ?_⟩
    walk_at "w"
    refine w_ite (fun c => ?_) (fun c => ?_)
    · walk_at "w"
      exact w_keep hk hA hlen hD (by rw [if_pos c])
    · exact w_drop hk hA (by rw [if_neg c])
  intro D H2 hD k2 hD2
  have hDn := kl.free hD
  have hp2 := SqL.kp' (SqL.kp' hp kl) k2
  walk_at "w"
  intro t ht
  have kt := Kp.refl.new (ms := []) (o := .lst ((cut ns none (some 63)).map V.int)) ht
  have ht1 : upd H2 t (.lst ((cut ns none (some 63)).map V.int)) t = some (.lst ((cut ns none (some 63)).map V.int)) := upd_same
  have hD3 := kt.at0 hD2
  have hDt : D ≠ t := ne_of_none hD2 ht
  generalize upd H2 t (.lst ((cut ns none (some 63)).map V.int)) = H3 at kt ht1 hD3 ⊢
  refine w_forM (us := cut ns none (some 63)) (f := V.int) (p := t) ht1 (fun i σ' H' => ∃ (s : Int) (z : Option V), σ' = [some (.ref p), z, some (.ref D), some (.int s)] ∧ H' = H3) ⟨_, _, rfl, rfl⟩ (fun i σ' H' _ h => by obtain ⟨_, _, _, rfl⟩ := h; exact ht1) ?_ ?_
  · rintro i u σ' H4 hu ⟨s, z, rfl, e⟩
    subst e
    walk_at "w"
    exact ⟨_, _, rfl, rfl⟩
  · rintro σ' H4 ⟨s, z, rfl, e⟩
    subst e
    walk_at "w"
    intro b hb
    have kf := (kl.trans k2).trans kt
    exact k b D _ (kf.free hb) hDn ⟨_, _, _, _, upd_same, upd_new hb hD3, ne_of_none hD3 hb⟩ (kf.new hb)

/-! ### the law's book -/
abbrev St3 := List Int × List Int × List Bool
def Bk (H : Hp) (w l r f : Addr) (n : Int) (s : St3) : Prop := Wd H w l r f n s.2.1 (s.1 ++ [n + 2]) s.2.2
theorem Bk.kp0 {H H' : Hp} {w l r f : Addr} {n : Int} {s : St3} (h : Bk H w l r f n s) (k : Kp [] H H') : Bk H' w l r f n s := Wd.kp0 h k
theorem set_app {us : List Int} {x u : Int} {i : Nat} (h : i < us.length) : (us ++ [x]).set i u = us.set i u ++ [x] := List.set_append_left _ _ h
theorem gd_app' {n : Int} {s : St3} (W : WFs n s) {x : Int} {i : Nat} (h : (i : Int) ≤ n) : (s.1 ++ [x]).getD i default = s.1.getD i default := gd_app (by rw [WF.hR W]; omega)
theorem bk_len {n : Int} {s : St3} (W : WFs n s) : (s.1 ++ [n + 2]).length = (n + 2).toNat := by
  have := WF.n0 W
  rw [List.length_append, WF.hR W]; simp; omega
def opF (s : St3) (v : Int) : Int := if s.2.2.getD v.toNat default = true then v else -v
theorem opF_ok {n : Int} {s : St3} {v : Int} (v1 : 1 ≤ v) (v2 : v ≤ n) : IsOp n (opF s v) ∧ (opF s v).natAbs = v.toNat ∧ OkAt n s (opF s v) := by
  have key : IsOp n (opF s v) ∧ (opF s v).natAbs = v.toNat ∧ s.2.2.getD v.toNat default ≠ decide (opF s v < 0) := by
    unfold opF IsOp
    by_cases c : s.2.2.getD v.toNat default = true
    · rw [if_pos c, c]
      refine ⟨by omega, by omega, ?_⟩
      rw [show decide (v < 0) = false by simp; omega]
      simp
    · rw [if_neg c]
      have c' : s.2.2.getD v.toNat default = false := by simpa using c
      rw [c']
      refine ⟨by omega, by omega, ?_⟩
      rw [show decide (-v < 0) = true by simp; omega]
      simp
  exact ⟨key.1, key.2.1, key.1, by rw [key.2.1]; exact key.2.2⟩
/-- a book that nobody changes -/
def Bkx (H : Hp) (w : Addr) (n : Int) (s : St3) : Prop := ∃ l r f, Bk H w l r f n s
theorem Bkx.kp0 {H H' : Hp} {w : Addr} {n : Int} {s : St3} (h : Bkx H w n s) (k : Kp [] H H') : Bkx H' w n s := by
  obtain ⟨l, r, f, h⟩ := h
  exact ⟨l, r, f, h.kp0 k⟩
theorem Bk.x {H : Hp} {w l r f : Addr} {n : Int} {s : St3} (h : Bk H w l r f n s) : Bkx H w n s := ⟨l, r, f, h⟩
theorem Bkx.kpm {ms : List Addr} {H H' : Hp} {w : Addr} {n : Int} {s : St3} (h : Bkx H w n s) (k : Kp ms H H') (z : ∀ y, (∃ o, H y = some o) → H' y = H y ∨ y ∉ ms) : Bkx H' w n s := by
  obtain ⟨l, r, f, h⟩ := h
  refine ⟨l, r, f, ?_⟩
  have g : ∀ y o, H y = some o → H' y = some o := fun y o e => by
    rcases z y ⟨o, e⟩ with q | q
    · rw [q, e]
    · exact k y o e q
  exact ⟨g _ _ h.1, g _ _ h.2.1, g _ _ h.2.2.1, g _ _ h.2.2.2.1, h.2.2.2.2⟩
/-- after the operation of the node -/
def mvS (s : St3) (v : Int) : St3 := stS s (opF s v)
theorem mvS_eq {n : Int} {s : St3} {v : Int} (v1 : 1 ≤ v) (v2 : v ≤ n) : mvS s v = (s.1.set (s.2.1.getD v.toNat default).toNat (if s.2.2.getD v.toNat default = true then v else s.1.getD v.toNat default), s.2.1.set (s.1.getD v.toNat default).toNat (if s.2.2.getD v.toNat default = true then v else s.2.1.getD v.toNat default), s.2.2.set v.toNat (!s.2.2.getD v.toNat default)) := by
  have hO := opF_ok (s := s) v1 v2
  have ev : ((v.toNat : Nat) : Int) = v := by omega
  unfold mvS stS apR apL apF
  rw [hO.2.1, ev]
  unfold opF
  by_cases c : s.2.2.getD v.toNat default = true
  · rw [if_pos c, if_neg (by omega), if_neg (by omega), c, if_pos rfl, if_pos rfl]
    have : decide (v < 0) = false := by simp; omega
    rw [this]; rfl
  · have c' : s.2.2.getD v.toNat default = false := by simpa using c
    rw [if_neg c, if_pos (by omega), if_pos (by omega), c']
    have : decide (-v < 0) = true := by simp; omega
    rw [this]
    simp
theorem mvS_wf {n : Int} {s : St3} (W : WFs n s) {v : Int} (v1 : 1 ≤ v) (v2 : v ≤ n) : WFs n (mvS s v) := WF.ap W (opF_ok (s := s) v1 v2).1
def sp__law_operation (a : AD) : Sp := fun vs H Q _ => ∃ (w : Addr) (n v : Int) (s : St3), vs = [.ref w, .int v] ∧ Bkx H w n s ∧ WFs n s ∧ 1 ≤ v ∧ v ≤ n ∧ Q (.int (opF s v)) H
theorem sc__law_operation : FnScope ["_law_book", "_law_node"] ["_law_book", "_law_node"] (defScope s__law_operation) := ⟨rfl, rfl, rfl, by decide +kernel, rfl, by decide +kernel, by decide +kernel⟩
theorem ok__law_operation {P : Program} {w : World} {K : PySem.W.Frag} {mg : Str → Option Value} {base : Heap} {a : AD} (T : Txt P K mg a) : FnA P w K mg base 2 a.f__law_operation ["_law_book", "_law_node"] (sp__law_operation a) := by
  obtain ⟨fd, F, b⟩ := T.F__law_operation
  refine FnA.of F sc__law_operation b (fun vs H Q E h => by first | (obtain ⟨rfl, _⟩ := h; rfl) | (obtain ⟨_, rfl, _⟩ := h; rfl) | (obtain ⟨_, _, rfl, _⟩ := h; rfl) | (obtain ⟨_, _, _, rfl, _⟩ := h; rfl) | (obtain ⟨_, _, _, _, rfl, _⟩ := h; rfl) | (obtain ⟨_, _, _, _, _, rfl, _⟩ := h; rfl) | (obtain ⟨_, _, _, _, _, _, rfl, _⟩ := h; rfl) | (obtain ⟨_, _, _, _, _, _, _, rfl, _⟩ := h; rfl) | (obtain ⟨_, _, _, _, _, _, _, _, rfl, _⟩ := h; rfl) | (obtain ⟨_, _, _, _, _, _, _, _, _, rfl, _⟩ := h; rfl) | (obtain ⟨_, _, _, _, _, _, _, _, _, _, rfl, _⟩ := h; rfl) | (obtain ⟨_, _, _, _, _, _, _, _, _, _, _, rfl, _⟩ := h; rfl) | (obtain ⟨_, _, _, _, _, _, _, _, _, _, _, _, rfl, _⟩ := h; rfl) | (obtain ⟨_, _, _, _, _, _, _, _, _, _, _, _, _, rfl, _⟩ := h; rfl) | (obtain ⟨_, _, _, _, _, _, _, _, _, _, _, _, _, _, rfl, _⟩ := h; rfl) | (obtain ⟨_, _, _, _, _, _, _, _, _, _, _, _, _, _, _, rfl, _⟩ := h; rfl) | (obtain ⟨_, _, _, _, _, _, _, _, _, _, _, _, _, _, _, _, rfl, _⟩ := h; rfl) | (obtain ⟨_, _, _, _, _, _, _, _, _, _, _, _, _, _, _, _, _, rfl, _⟩ := h; rfl) | (obtain ⟨_, _, _, _, _, _, _, _, _, _, _, _, _, _, _, _, _, _, rfl, _⟩ := h; rfl) | (obtain ⟨_, _, _, _, _, _, _, _, _, _, _, _, _, _, _, _, _, _, _, rfl, _⟩ := h; rfl) | (obtain ⟨_, _, _, _, _, _, _, _, _, _, _, _, _, _, _, _, _, _, _, _, rfl, _⟩ := h; rfl) | (obtain ⟨_, _, _, _, _, _, _, _, _, _, _, _, _, _, _, _, _, _, _, _, _, rfl, _⟩ := h; rfl) | (obtain ⟨_, _, _, _, _, _, _, _, _, _, _, _, _, _, _, _, _, _, _, _, _, _, rfl, _⟩ := h; rfl) | (obtain ⟨_, _, _, _, _, _, _, _, _, _, _, _, _, _, _, _, _, _, _, _, _, _, _, rfl, _⟩ := h; rfl)) (fun cdv A outer s H vs Q E hr tk pz h => ?_)
  have hu := hr.units
  have hrH := L2H.roomH_of hr
  obtain ⟨w, n, v, s, rfl, ⟨l, r, f, hw, hl, hr', hf, _⟩, W, v1, v2, k⟩ := h
  refine ⟨_, (pss_cons (ps_if (pt_tru (pe_ix ix_seq (pe_ix ix_seq (pv 0) pe_int (fun _ _ => rfl)) (pv 1) (fun _ _ => rfl))) (pss_one (ps_ret (pv 1))) pss_nil)
      (pss_one (ps_ret (pe_un un_neg (pv 1))))), ?_⟩
  show (_ : Ends → L2.St → Hp → Prop) _ [some _, some _] _
  try dsimp only [L2H.cxH, cxOf]
  have hF := WF.hF W
  unfold opF at k
  walk_at "w"
  refine w_iteb (fun c => ?_) (fun c => ?_)
  · rw [if_pos c] at k
    walk_at "w"
    exact k
  · rw [if_neg (by rw [c]; exact Bool.false_ne_true)] at k
    walk_at "w"
    exact k
def sp__law_moved (a : AD) : Sp := fun vs H Q _ => ∃ (w : Addr) (n v : Int) (s : St3), vs = [.ref w, .int v] ∧ Bkx H w n s ∧ WFs n s ∧ 1 ≤ v ∧ v ≤ n ∧ ∀ w' l' r' f' H', H w' = none → H l' = none → H r' = none → H f' = none → Bk H' w' l' r' f' n (mvS s v) → Kp [] H H' → Q (.ref w') H'
theorem sc__law_moved : FnScope ["_law_book", "_law_node", "_law_lefts", "_law_rights", "_law_flags", "_law_lower", "_law_upper"] ["_law_book", "_law_node"] (defScope s__law_moved) := ⟨rfl, rfl, rfl, by decide +kernel, rfl, by decide +kernel, by decide +kernel⟩
theorem ok__law_moved {P : Program} {w : World} {K : PySem.W.Frag} {mg : Str → Option Value} {base : Heap} {a : AD} (T : Txt P K mg a) : FnA P w K mg base 2 a.f__law_moved ["_law_book", "_law_node"] (sp__law_moved a) := by
  obtain ⟨fd, F, b⟩ := T.F__law_moved
  refine FnA.of F sc__law_moved b (fun vs H Q E h => by first | (obtain ⟨rfl, _⟩ := h; rfl) | (obtain ⟨_, rfl, _⟩ := h; rfl) | (obtain ⟨_, _, rfl, _⟩ := h; rfl) | (obtain ⟨_, _, _, rfl, _⟩ := h; rfl) | (obtain ⟨_, _, _, _, rfl, _⟩ := h; rfl) | (obtain ⟨_, _, _, _, _, rfl, _⟩ := h; rfl) | (obtain ⟨_, _, _, _, _, _, rfl, _⟩ := h; rfl) | (obtain ⟨_, _, _, _, _, _, _, rfl, _⟩ := h; rfl) | (obtain ⟨_, _, _, _, _, _, _, _, rfl, _⟩ := h; rfl) | (obtain ⟨_, _, _, _, _, _, _, _, _, rfl, _⟩ := h; rfl) | (obtain ⟨_, _, _, _, _, _, _, _, _, _, rfl, _⟩ := h; rfl) | (obtain ⟨_, _, _, _, _, _, _, _, _, _, _, rfl, _⟩ := h; rfl) | (obtain ⟨_, _, _, _, _, _, _, _, _, _, _, _, rfl, _⟩ := h; rfl) | (obtain ⟨_, _, _, _, _, _, _, _, _, _, _, _, _, rfl, _⟩ := h; rfl) | (obtain ⟨_, _, _, _, _, _, _, _, _, _, _, _, _, _, rfl, _⟩ := h; rfl) | (obtain ⟨_, _, _, _, _, _, _, _, _, _, _, _, _, _, _, rfl, _⟩ := h; rfl) | (obtain ⟨_, _, _, _, _, _, _, _, _, _, _, _, _, _, _, _, rfl, _⟩ := h; rfl) | (obtain ⟨_, _, _, _, _, _, _, _, _, _, _, _, _, _, _, _, _, rfl, _⟩ := h; rfl) | (obtain ⟨_, _, _, _, _, _, _, _, _, _, _, _, _, _, _, _, _, _, rfl, _⟩ := h; rfl) | (obtain ⟨_, _, _, _, _, _, _, _, _, _, _, _, _, _, _, _, _, _, _, rfl, _⟩ := h; rfl) | (obtain ⟨_, _, _, _, _, _, _, _, _, _, _, _, _, _, _, _, _, _, _, _, rfl, _⟩ := h; rfl) | (obtain ⟨_, _, _, _, _, _, _, _, _, _, _, _, _, _, _, _, _, _, _, _, _, rfl, _⟩ := h; rfl) | (obtain ⟨_, _, _, _, _, _, _, _, _, _, _, _, _, _, _, _, _, _, _, _, _, _, rfl, _⟩ := h; rfl) | (obtain ⟨_, _, _, _, _, _, _, _, _, _, _, _, _, _, _, _, _, _, _, _, _, _, _, rfl, _⟩ := h; rfl)) (fun cdv A outer s H vs Q E hr tk pz h => ?_)
  have hu := hr.units
  have hrH := L2H.roomH_of hr
  obtain ⟨w, n, v, s, rfl, ⟨l, r, f, hw, hl, hr', hf, _⟩, W, v1, v2, k⟩ := h
  refine ⟨_, (pss_cons (ps_set (i := 2) sc__law_moved.nd rfl (Or.inl rfl) (pe_callTy b_list rfl T.b_list (by decide +kernel) (pa_cons (pe_ix ix_seq (pv 0) pe_int (fun _ _ => rfl)) pa_nil)))
      (pss_cons (ps_set (i := 3) sc__law_moved.nd rfl (Or.inl rfl) (pe_callTy b_list rfl T.b_list (by decide +kernel) (pa_cons (pe_ix ix_seq (pv 0) pe_int (fun _ _ => rfl)) pa_nil)))
      (pss_cons (ps_set (i := 4) sc__law_moved.nd rfl (Or.inl rfl) (pe_callTy b_list rfl T.b_list (by decide +kernel) (pa_cons (pe_ix ix_seq (pv 0) pe_int (fun _ _ => rfl)) pa_nil)))
      (pss_cons (ps_set (i := 5) sc__law_moved.nd rfl (Or.inl rfl) (pe_ix ix_seq (pv 2) (pv 1) (fun _ _ => rfl)))
      (pss_cons (ps_set (i := 6) sc__law_moved.nd rfl (Or.inl rfl) (pe_ix ix_seq (pv 3) (pv 1) (fun _ _ => rfl)))
      (pss_cut (ps_if (pt_tru (pe_ix ix_seq (pv 4) (pv 1) (fun _ _ => rfl))) (pss_cons (ps_asg (pv 1) (pg_sub (pv 3) (pv 5) set_list))
      (pss_one (ps_asg (pv 1) (pg_sub (pv 2) (pv 6) set_list)))) (pss_cons (ps_asg (pv 6) (pg_sub (pv 3) (pv 5) set_list))
      (pss_one (ps_asg (pv 5) (pg_sub (pv 2) (pv 6) set_list)))))
      (pss_cons (ps_asg (pe_not (pe_ix ix_seq (pv 4) (pv 1) (fun _ _ => rfl))) (pg_sub (pv 4) (pv 1) set_list))
      (pss_one (ps_ret (pe_lst (pa_cons (pe_ix ix_seq (pv 0) pe_int (fun _ _ => rfl)) (pa_cons (pv 2) (pa_cons (pv 3) (pa_cons (pv 4) pa_nil)))))))))))))), ?_⟩
  show (_ : Ends → L2.St → Hp → Prop) _ [some _, some _, none, none, none, none, none] _
  try dsimp only [L2H.cxH, cxOf]
  have hF := WF.hF W
  have hL := WF.hL W
  have hR := WF.hR W
  have hla := bk_len W
  have q := WF.at W (v := v.toNat) (by omega) (by omega)
  have eR := gd_app' W (x := n + 2) (i := v.toNat) (by omega)
  have ev : ((v.toNat : Nat) : Int) = v := by omega
  rw [ev] at q
  have eS := mvS_eq (s := s) v1 v2
  walk_at "w"
  intro l2 hl2
  walk_at "w"
  intro r2 hr2
  walk_at "w"
  intro f2 hf2
  have e1 : l2 ≠ r2 := ne_of_none upd_same hr2
  have e2 : l2 ≠ f2 := ne_of_none (upd_get e1 upd_same) hf2
  have e3 : r2 ≠ f2 := ne_of_none upd_same hf2
  have g1 : upd (upd (upd H l2 (.lst (s.2.1.map V.int))) r2 (.lst ((s.1 ++ [n + 2]).map V.int))) f2 (.lst (s.2.2.map V.bl)) l2 = some (.lst (s.2.1.map V.int)) := upd_get e2 (upd_get e1 upd_same)
  have g2 : upd (upd (upd H l2 (.lst (s.2.1.map V.int))) r2 (.lst ((s.1 ++ [n + 2]).map V.int))) f2 (.lst (s.2.2.map V.bl)) r2 = some (.lst ((s.1 ++ [n + 2]).map V.int)) := upd_get e3 upd_same
  have g3 : upd (upd (upd H l2 (.lst (s.2.1.map V.int))) r2 (.lst ((s.1 ++ [n + 2]).map V.int))) f2 (.lst (s.2.2.map V.bl)) f2 = some (.lst (s.2.2.map V.bl)) := upd_same
  have k3 : Kp [] H (upd (upd (upd H l2 (.lst (s.2.1.map V.int))) r2 (.lst ((s.1 ++ [n + 2]).map V.int))) f2 (.lst (s.2.2.map V.bl))) := ((Kp.refl.new hl2).new hr2).new hf2
  have n2 : H r2 = none := upd_nil hr2
  have n3 : H f2 = none := upd_nil (upd_nil hf2)
  generalize upd (upd (upd H l2 (.lst (s.2.1.map V.int))) r2 (.lst ((s.1 ++ [n + 2]).map V.int))) f2 (.lst (s.2.2.map V.bl)) = H1 at g1 g2 g3 k3 ⊢
  have hw1 := k3.at0 hw
  have e4 : w ≠ l2 := ne_of_none hw hl2
  have e5 : w ≠ r2 := ne_of_none hw n2
  have e6 : w ≠ f2 := ne_of_none hw n3
  walk_at "w"
  rw [eR]
  refine s_cut (fun σ' H' => ∃ z5 z6, σ' = [some (.ref w), some (.int v), some (.ref l2), some (.ref r2), some (.ref f2), z5, z6] ∧ H' l2 = some (.lst ((mvS s v).2.1.map V.int)) ∧ H' r2 = some (.lst (((mvS s v).1 ++ [n + 2]).map V.int)) ∧ H' f2 = some (.lst (s.2.2.map V.bl)) ∧ Kp [l2, r2, f2] H1 H' ∧ Kp [] H H') ?_ ?_
  · rw [eS]
    walk_at "w"
    refine w_iteb (fun c => ?_) (fun c => ?_)
    · rw [if_pos c, if_pos c]
      walk_at "w"
      refine ⟨_, _, rfl, upd_same, ?_, ?_, (Kp.refl.mut (by simp)).mut (by simp), (k3.own n2).own hl2⟩
      · rw [upd_get (Ne.symm e1) upd_same, set_app (by omega)]
      · exact upd_get (Ne.symm e2) (upd_get (Ne.symm e3) g3)
    · have c' : ¬s.2.2.getD v.toNat default = true := by rw [c]; exact Bool.false_ne_true
      rw [if_neg c', if_neg c']
      walk_at "w"
      refine ⟨_, _, rfl, upd_same, ?_, ?_, (Kp.refl.mut (by simp)).mut (by simp), (k3.own n2).own hl2⟩
      · rw [upd_get (Ne.symm e1) upd_same, set_app (by omega)]
      · exact upd_get (Ne.symm e2) (upd_get (Ne.symm e3) g3)
  · rintro σ' H' ⟨z5, z6, rfl, h2, h3, h4, hk, hk0⟩
    have hw2 := hk0.at0 hw
    walk_at "w"
    intro w2 hw2n
    have d1 := ne_of_none (upd_get e2 h2) hw2n
    have d2 := ne_of_none (upd_get e3 h3) hw2n
    have d3 := ne_of_none upd_same hw2n
    refine k w2 l2 r2 f2 _ ?_ hl2 n2 n3 ⟨upd_same, upd_get d1 (upd_get e2 h2), upd_get d2 (upd_get e3 h3), ?_, Ne.symm d1, Ne.symm d2, Ne.symm d3, e1, e2, e3⟩ ((hk0.own n3).new hw2n)
    · exact hk0.free (upd_nil hw2n)
    · rw [upd_get d3 upd_same, eS]
theorem state_lost {R L : List Int} {g : Int} : stateOf R L g = ("lost" : Str) ↔ R.getD g.toNat default ≠ g + 1 ∧ L.getD (g + 1).toNat default ≠ g := by
  unfold stateOf
  by_cases c1 : R.getD g.toNat default = g + 1
  · rw [if_pos c1]
    by_cases c2 : L.getD (g + 1).toNat default = g
    · rw [if_pos c2]; exact ⟨fun h => absurd h (by decide), fun h => absurd c1 h.1⟩
    · rw [if_neg c2]; exact ⟨fun h => absurd h (by decide), fun h => absurd c1 h.1⟩
  · rw [if_neg c1]
    by_cases c2 : L.getD (g + 1).toNat default = g
    · rw [if_pos c2]; exact ⟨fun h => absurd h (by decide), fun h => absurd c2 h.2⟩
    · rw [if_neg c2]; exact ⟨fun _ => ⟨c1, c2⟩, fun _ => rfl⟩
def sp__law_lost (a : AD) : Sp := fun vs H Q _ => ∃ (w : Addr) (n : Int) (s : St3), vs = [.ref w] ∧ Bkx H w n s ∧ WFs n s ∧ ∀ p H', H p = none → Kp [] H H' → H' p = some (.lst ((lostF n s.1 s.2.1).map V.int)) → Q (.ref p) H'
theorem sc__law_lost : FnScope ["_law_book", "_law_gap"] ["_law_book"] (defScope s__law_lost) := ⟨rfl, rfl, rfl, by decide +kernel, rfl, by decide +kernel, by decide +kernel⟩
theorem ok__law_lost {P : Program} {w : World} {K : PySem.W.Frag} {mg : Str → Option Value} {base : Heap} {a : AD} (T : Txt P K mg a) : FnA P w K mg base 2 a.f__law_lost ["_law_book"] (sp__law_lost a) := by
  obtain ⟨fd, F, b⟩ := T.F__law_lost
  refine FnA.of F sc__law_lost b (fun vs H Q E h => by first | (obtain ⟨rfl, _⟩ := h; rfl) | (obtain ⟨_, rfl, _⟩ := h; rfl) | (obtain ⟨_, _, rfl, _⟩ := h; rfl) | (obtain ⟨_, _, _, rfl, _⟩ := h; rfl) | (obtain ⟨_, _, _, _, rfl, _⟩ := h; rfl) | (obtain ⟨_, _, _, _, _, rfl, _⟩ := h; rfl) | (obtain ⟨_, _, _, _, _, _, rfl, _⟩ := h; rfl) | (obtain ⟨_, _, _, _, _, _, _, rfl, _⟩ := h; rfl) | (obtain ⟨_, _, _, _, _, _, _, _, rfl, _⟩ := h; rfl) | (obtain ⟨_, _, _, _, _, _, _, _, _, rfl, _⟩ := h; rfl) | (obtain ⟨_, _, _, _, _, _, _, _, _, _, rfl, _⟩ := h; rfl) | (obtain ⟨_, _, _, _, _, _, _, _, _, _, _, rfl, _⟩ := h; rfl) | (obtain ⟨_, _, _, _, _, _, _, _, _, _, _, _, rfl, _⟩ := h; rfl) | (obtain ⟨_, _, _, _, _, _, _, _, _, _, _, _, _, rfl, _⟩ := h; rfl) | (obtain ⟨_, _, _, _, _, _, _, _, _, _, _, _, _, _, rfl, _⟩ := h; rfl) | (obtain ⟨_, _, _, _, _, _, _, _, _, _, _, _, _, _, _, rfl, _⟩ := h; rfl) | (obtain ⟨_, _, _, _, _, _, _, _, _, _, _, _, _, _, _, _, rfl, _⟩ := h; rfl) | (obtain ⟨_, _, _, _, _, _, _, _, _, _, _, _, _, _, _, _, _, rfl, _⟩ := h; rfl) | (obtain ⟨_, _, _, _, _, _, _, _, _, _, _, _, _, _, _, _, _, _, rfl, _⟩ := h; rfl) | (obtain ⟨_, _, _, _, _, _, _, _, _, _, _, _, _, _, _, _, _, _, _, rfl, _⟩ := h; rfl) | (obtain ⟨_, _, _, _, _, _, _, _, _, _, _, _, _, _, _, _, _, _, _, _, rfl, _⟩ := h; rfl) | (obtain ⟨_, _, _, _, _, _, _, _, _, _, _, _, _, _, _, _, _, _, _, _, _, rfl, _⟩ := h; rfl) | (obtain ⟨_, _, _, _, _, _, _, _, _, _, _, _, _, _, _, _, _, _, _, _, _, _, rfl, _⟩ := h; rfl) | (obtain ⟨_, _, _, _, _, _, _, _, _, _, _, _, _, _, _, _, _, _, _, _, _, _, _, rfl, _⟩ := h; rfl)) (fun cdv A outer s H vs Q E hr tk pz h => ?_)
  have hu := hr.units
  have hrH := L2H.roomH_of hr
  obtain ⟨w, n, s, rfl, ⟨l, r, f, hw, hl, hr', hf, _⟩, W, k⟩ := h
  refine ⟨_, (pss_one (ps_ret (pe_lc (own := [("_law_gap", 1)]) (g := (gName 1)) rfl sc__law_lost.nd (pi_range1 rfl T.b_range (pa_cons (pe_op o_add (pe_ix ix_seq (pv 0) pe_int (fun _ _ => rfl)) pe_int) pa_nil)) (blkOk_by (own := [("_law_gap", 1)]) (N := ["_law_book", "_law_gap"]) (sc := defScope s__law_lost) (by decide +kernel)) (fun _ _ _ _ _ => (pg_name (i := 1) sc__law_lost.nd rfl (Or.inl rfl))) (fun _ _ _ _ _ => (pts_one (PW.pt (pw_and (pt_cmpA (show OpR _ _ (aNe K) from (o_ne hu)) (pe_ix (show IxR _ (rIx K) from ix_seq) (pe_ix (show IxR _ (rIx K) from ix_seq) (pv 0) pe_int (fun _ _ => rfl)) (pv 1) (fun _ _ => rfl)) (pe_op o_add (pv 1) pe_int) (nomark _)) (pw_and1 (pt_cmpA (show OpR _ _ (aNe K) from (o_ne hu)) (pe_ix (show IxR _ (rIx K) from ix_seq) (pe_ix (show IxR _ (rIx K) from ix_seq) (pv 0) pe_int (fun _ _ => rfl)) (pe_op o_add (pv 1) pe_int) (fun _ _ => rfl)) (pv 1) (nomark _))))))) (fun _ _ _ _ _ => (pv 1))))), ?_⟩
  show (_ : Ends → L2.St → Hp → Prop) _ [some _, none] _
  try dsimp only [L2H.cxH, cxOf]
  have n0 := WF.n0 W
  have n1 := WF.n1 W
  have hL := WF.hL W
  have hla := bk_len W
  walk_at "w"
  refine w_lcR1 (f' := V.int) (fun i : Nat => if stateOf s.1 s.2.1 (i : Int) = ("lost" : Str) then some (i : Int) else none) (n := n + 1) (by omega) (by omega) (by rw [sizeLine_eq]; omega) ?_ ?_
  · intro D i acc H' hD hi hk hA hlen
    have hw5 := hk.at0 hw
    have hl5 := hk.at0 hl
    have hr5 := hk.at0 hr'
    have eR := gd_app' W (x := n + 2) (i := i) (by omega)
    have js := state_lost (R := s.1) (L := s.2.1) (g := (i : Int))
    rw [Int.toNat_natCast] at js
    walk_at "w"
    refine ⟨rfl, ?_⟩
    walk_at "w"
    rw [Int.toNat_natCast, eR]
    refine w_iteN (fun c1 => ?_) (fun c1 => ?_)
    · walk_at "w"
      refine w_iteN (fun c2 => ?_) (fun c2 => ?_)
      · walk_at "w"
        exact w_keep hk hA hlen hD (by rw [if_pos (js.mpr ⟨c1, c2⟩)])
      · walk_at "w"
        exact w_drop hk hA (by rw [if_neg (fun z => (js.mp z).2 c2)])
    · walk_at "w"
      exact w_drop hk hA (by rw [if_neg (fun z => (js.mp z).1 c1)])
  · intro D H' hD hk hA
    exact k D H' hD hk hA
def sp__law_whole (a : AD) : Sp := fun vs H Q _ => ∃ (n : Int), vs = [.int n] ∧ 0 ≤ n ∧ n ≤ 60 ∧ ∀ w' l' r' f' H', H w' = none → H l' = none → H r' = none → H f' = none → Bk H' w' l' r' f' n (s0 n) → Kp [] H H' → Q (.ref w') H'
theorem sc__law_whole : FnScope ["_law_size", "_law_node", "_law_lefts", "_law_rights"] ["_law_size"] (defScope s__law_whole) := ⟨rfl, rfl, rfl, by decide +kernel, rfl, by decide +kernel, by decide +kernel⟩
theorem ok__law_whole {P : Program} {w : World} {K : PySem.W.Frag} {mg : Str → Option Value} {base : Heap} {a : AD} (T : Txt P K mg a) : FnA P w K mg base 2 a.f__law_whole ["_law_size"] (sp__law_whole a) := by
  obtain ⟨fd, F, b⟩ := T.F__law_whole
  refine FnA.of F sc__law_whole b (fun vs H Q E h => by first | (obtain ⟨rfl, _⟩ := h; rfl) | (obtain ⟨_, rfl, _⟩ := h; rfl) | (obtain ⟨_, _, rfl, _⟩ := h; rfl) | (obtain ⟨_, _, _, rfl, _⟩ := h; rfl) | (obtain ⟨_, _, _, _, rfl, _⟩ := h; rfl) | (obtain ⟨_, _, _, _, _, rfl, _⟩ := h; rfl) | (obtain ⟨_, _, _, _, _, _, rfl, _⟩ := h; rfl) | (obtain ⟨_, _, _, _, _, _, _, rfl, _⟩ := h; rfl) | (obtain ⟨_, _, _, _, _, _, _, _, rfl, _⟩ := h; rfl) | (obtain ⟨_, _, _, _, _, _, _, _, _, rfl, _⟩ := h; rfl) | (obtain ⟨_, _, _, _, _, _, _, _, _, _, rfl, _⟩ := h; rfl) | (obtain ⟨_, _, _, _, _, _, _, _, _, _, _, rfl, _⟩ := h; rfl) | (obtain ⟨_, _, _, _, _, _, _, _, _, _, _, _, rfl, _⟩ := h; rfl) | (obtain ⟨_, _, _, _, _, _, _, _, _, _, _, _, _, rfl, _⟩ := h; rfl) | (obtain ⟨_, _, _, _, _, _, _, _, _, _, _, _, _, _, rfl, _⟩ := h; rfl) | (obtain ⟨_, _, _, _, _, _, _, _, _, _, _, _, _, _, _, rfl, _⟩ := h; rfl) | (obtain ⟨_, _, _, _, _, _, _, _, _, _, _, _, _, _, _, _, rfl, _⟩ := h; rfl) | (obtain ⟨_, _, _, _, _, _, _, _, _, _, _, _, _, _, _, _, _, rfl, _⟩ := h; rfl) | (obtain ⟨_, _, _, _, _, _, _, _, _, _, _, _, _, _, _, _, _, _, rfl, _⟩ := h; rfl) | (obtain ⟨_, _, _, _, _, _, _, _, _, _, _, _, _, _, _, _, _, _, _, rfl, _⟩ := h; rfl) | (obtain ⟨_, _, _, _, _, _, _, _, _, _, _, _, _, _, _, _, _, _, _, _, rfl, _⟩ := h; rfl) | (obtain ⟨_, _, _, _, _, _, _, _, _, _, _, _, _, _, _, _, _, _, _, _, _, rfl, _⟩ := h; rfl) | (obtain ⟨_, _, _, _, _, _, _, _, _, _, _, _, _, _, _, _, _, _, _, _, _, _, rfl, _⟩ := h; rfl) | (obtain ⟨_, _, _, _, _, _, _, _, _, _, _, _, _, _, _, _, _, _, _, _, _, _, _, rfl, _⟩ := h; rfl)) (fun cdv A outer s H vs Q E hr tk pz h => ?_)
  have hu := hr.units
  have hrH := L2H.roomH_of hr
  obtain ⟨n, rfl, n0, n1, k⟩ := h
  refine ⟨_, (pss_cons (ps_setLc (i := 2) (own := [("_law_node", 1)]) (g := (gName 1)) (tt := tYes) rfl sc__law_whole.nd rfl rfl (sw_true rfl rfl rfl (by decide +kernel)) (pi_range1 rfl T.b_range (pa_cons (pe_op o_add (pv 0) pe_int) pa_nil)) (blkOk_by (own := [("_law_node", 1)]) (N := ["_law_size", "_law_node", "_law_lefts", "_law_rights"]) (sc := defScope s__law_whole) (by decide +kernel)) (fun _ _ _ _ _ => (pg_name (i := 1) sc__law_whole.nd rfl (Or.inl rfl))) (fun _ _ _ _ _ => pts_nil) (fun _ _ _ _ _ => (pe_op op_sub (pv 1) pe_int)))
      (pss_cons (ps_setLc (i := 3) (own := [("_law_node", 1)]) (g := (gName 1)) (tt := tYes) rfl sc__law_whole.nd rfl rfl (sw_true rfl rfl rfl (by decide +kernel)) (pi_range1 rfl T.b_range (pa_cons (pe_op o_add (pv 0) pe_int) pa_nil)) (blkOk_by (own := [("_law_node", 1)]) (N := ["_law_size", "_law_node", "_law_lefts", "_law_rights"]) (sc := defScope s__law_whole) (by decide +kernel)) (fun _ _ _ _ _ => (pg_name (i := 1) sc__law_whole.nd rfl (Or.inl rfl))) (fun _ _ _ _ _ => pts_nil) (fun _ _ _ _ _ => (pe_op o_add (pv 1) pe_int)))
      (pss_one (ps_ret (pe_lst (pa_cons (pv 0) (pa_cons (pv 2) (pa_cons (pv 3) (pa_cons (pe_lc (own := [("_law_node", 1)]) (g := (gName 1)) (tt := tYes) rfl sc__law_whole.nd (pi_range1 rfl T.b_range (pa_cons (pe_op o_add (pv 0) pe_int) pa_nil)) (blkOk_by (own := [("_law_node", 1)]) (N := ["_law_size", "_law_node", "_law_lefts", "_law_rights"]) (sc := defScope s__law_whole) (by decide +kernel)) (fun _ _ _ _ _ => (pg_name (i := 1) sc__law_whole.nd rfl (Or.inl rfl))) (fun _ _ _ _ _ => pts_nil) (fun _ _ _ _ _ => pe_bl)) pa_nil))))))))), ?_⟩
  show (_ : Ends → L2.St → Hp → Prop) _ [some _, none, none, none] _
  try dsimp only [L2H.cxH, cxOf]
  walk_at "w"
  refine w_lcR1 (f' := V.int) (fun i : Nat => some ((i : Int) - 1)) (n := n + 2) (by omega) (by omega) (by rw [sizeLine_eq]; omega) ?_ ?_
  · intro D i acc H' hD hi hk hA hlen
    walk_at "w"
    refine ⟨rfl, ?_⟩
    walk_at "w"
    exact w_keep hk hA hlen hD rfl
  intro l2 H1 hl2 k1 hL
  rw [fm_some] at hL
  walk_at "w"
  refine w_lcR1 (f' := V.int) (fun i : Nat => some ((i : Int) + 1)) (n := n + 2) (by omega) (by omega) (by rw [sizeLine_eq]; omega) ?_ ?_
  · intro D i acc H' hD hi hk hA hlen
    walk_at "w"
    refine ⟨rfl, ?_⟩
    walk_at "w"
    exact w_keep hk hA hlen hD rfl
  intro r2 H2 hr2 k2 hR
  rw [fm_some, show (n + 2).toNat = (n + 1).toNat + 1 by omega, List.range_succ, List.map_append] at hR
  have e1 := ne_of_none hL hr2
  walk_at "w"
  refine w_lcR1 (f' := V.bl) (fun i : Nat => some false) (n := n + 2) (by omega) (by omega) (by rw [sizeLine_eq]; omega) ?_ ?_
  · intro D i acc H' hD hi hk hA hlen
    walk_at "w"
    refine ⟨rfl, ?_⟩
    walk_at "w"
    exact w_keep hk hA hlen hD rfl
  intro f2 H3 hf2 k3 hF
  rw [fm_rep] at hF
  have hL2 := k2.at0 hL
  have e2 := ne_of_none hL2 hf2
  have e3 := ne_of_none hR hf2
  have hL3 := k3.at0 hL2
  have hR3 := k3.at0 hR
  walk_at "w"
  intro w2 hw2
  have kk := (k1.trans k2).trans k3
  refine k w2 l2 r2 f2 _ (kk.free hw2) hl2 (k1.free hr2) ((k1.trans k2).free hf2) ⟨upd_same, upd_new hw2 hL3, ?_, upd_new hw2 hF, Ne.symm (ne_of_none hL3 hw2), Ne.symm (ne_of_none hR3 hw2), Ne.symm (ne_of_none hF hw2), e1, e2, e3⟩ (kk.new hw2)
  have hR4 := upd_new (o := HO.lst [.int n, .ref l2, .ref r2, .ref f2]) hw2 hR3
  rw [hR4]
  unfold s0 r0
  rw [List.map_cons, List.map_nil, show ((((n + 1).toNat : Nat) : Int) + 1) = n + 2 by omega]
def sp__law_is (a : AD) : Sp := fun vs H Q _ => ∃ (t d : Int), vs = [.int t, .int d] ∧ Q (.bl (decide (t = d))) H
theorem sc__law_is : FnScope ["_law_told", "_law_due"] ["_law_told", "_law_due"] (defScope s__law_is) := ⟨rfl, rfl, rfl, by decide +kernel, rfl, by decide +kernel, by decide +kernel⟩
theorem ok__law_is {P : Program} {w : World} {K : PySem.W.Frag} {mg : Str → Option Value} {base : Heap} {a : AD} (T : Txt P K mg a) : FnA P w K mg base 2 a.f__law_is ["_law_told", "_law_due"] (sp__law_is a) := by
  obtain ⟨fd, F, b⟩ := T.F__law_is
  refine FnA.of F sc__law_is b (fun vs H Q E h => by first | (obtain ⟨rfl, _⟩ := h; rfl) | (obtain ⟨_, rfl, _⟩ := h; rfl) | (obtain ⟨_, _, rfl, _⟩ := h; rfl) | (obtain ⟨_, _, _, rfl, _⟩ := h; rfl) | (obtain ⟨_, _, _, _, rfl, _⟩ := h; rfl) | (obtain ⟨_, _, _, _, _, rfl, _⟩ := h; rfl) | (obtain ⟨_, _, _, _, _, _, rfl, _⟩ := h; rfl) | (obtain ⟨_, _, _, _, _, _, _, rfl, _⟩ := h; rfl) | (obtain ⟨_, _, _, _, _, _, _, _, rfl, _⟩ := h; rfl) | (obtain ⟨_, _, _, _, _, _, _, _, _, rfl, _⟩ := h; rfl) | (obtain ⟨_, _, _, _, _, _, _, _, _, _, rfl, _⟩ := h; rfl) | (obtain ⟨_, _, _, _, _, _, _, _, _, _, _, rfl, _⟩ := h; rfl) | (obtain ⟨_, _, _, _, _, _, _, _, _, _, _, _, rfl, _⟩ := h; rfl) | (obtain ⟨_, _, _, _, _, _, _, _, _, _, _, _, _, rfl, _⟩ := h; rfl) | (obtain ⟨_, _, _, _, _, _, _, _, _, _, _, _, _, _, rfl, _⟩ := h; rfl) | (obtain ⟨_, _, _, _, _, _, _, _, _, _, _, _, _, _, _, rfl, _⟩ := h; rfl) | (obtain ⟨_, _, _, _, _, _, _, _, _, _, _, _, _, _, _, _, rfl, _⟩ := h; rfl) | (obtain ⟨_, _, _, _, _, _, _, _, _, _, _, _, _, _, _, _, _, rfl, _⟩ := h; rfl) | (obtain ⟨_, _, _, _, _, _, _, _, _, _, _, _, _, _, _, _, _, _, rfl, _⟩ := h; rfl) | (obtain ⟨_, _, _, _, _, _, _, _, _, _, _, _, _, _, _, _, _, _, _, rfl, _⟩ := h; rfl) | (obtain ⟨_, _, _, _, _, _, _, _, _, _, _, _, _, _, _, _, _, _, _, _, rfl, _⟩ := h; rfl) | (obtain ⟨_, _, _, _, _, _, _, _, _, _, _, _, _, _, _, _, _, _, _, _, _, rfl, _⟩ := h; rfl) | (obtain ⟨_, _, _, _, _, _, _, _, _, _, _, _, _, _, _, _, _, _, _, _, _, _, rfl, _⟩ := h; rfl) | (obtain ⟨_, _, _, _, _, _, _, _, _, _, _, _, _, _, _, _, _, _, _, _, _, _, _, rfl, _⟩ := h; rfl)) (fun cdv A outer s H vs Q E hr tk pz h => ?_)
  have hu := hr.units
  have hrH := L2H.roomH_of hr
  obtain ⟨t, d, rfl, k⟩ := h
  refine ⟨_, (pss_one (ps_ret (pe_and (pe_callB (call_isi) rfl T.b_isinstance (by decide +kernel) (pa_cons (pv 0) (pa_cons (pe_bltn (v := .ty "int") rfl T.b_int (by decide +kernel) rfl) pa_nil))) (pe_and (pe_not (pe_callB (call_isi) rfl T.b_isinstance (by decide +kernel) (pa_cons (pv 0) (pa_cons (pe_bltn (v := .ty "bool") rfl T.b_bool (by decide +kernel) rfl) pa_nil)))) (pe_one (pe_cmpR (o_eq hu) (pv 0) (pv 1) (nomark _))))))), ?_⟩
  show (_ : Ends → L2.St → Hp → Prop) _ [some _, some _] _
  try dsimp only [L2H.cxH, cxOf]
  walk_at "w"
  exact k
theorem ne_atI {us ds : List Int} {i : Nat} (h : ¬us.getD i default = ds.getD i default) : decide (us = ds) = false := by
  simp; intro z; exact h (by rw [z])
theorem eq_atI {us ds : List Int} (hl : us.length = ds.length) (h : ∀ j, j < ds.length → us.getD j default = ds.getD j default) : us = ds := by
  apply List.ext_getElem hl
  intro i h1 h2
  have := h i h2
  simpa [List.getD, List.getElem?_eq_getElem h1, List.getElem?_eq_getElem h2] using this
def sp__law_ints (a : AD) : Sp := fun vs H Q _ => ∃ (p q : Addr) (us ds : List Int), vs = [.ref p, .ref q] ∧ H p = some (.lst (us.map V.int)) ∧ H q = some (.lst (ds.map V.int)) ∧ us.length < 1000000 ∧ ds.length < 1000000 ∧ Q (.bl (decide (us = ds))) H
theorem sc__law_ints : FnScope ["_law_told", "_law_due", "_law_k"] ["_law_told", "_law_due"] (defScope s__law_ints) := ⟨rfl, rfl, rfl, by decide +kernel, rfl, by decide +kernel, by decide +kernel⟩
theorem ok__law_ints {P : Program} {w : World} {K : PySem.W.Frag} {mg : Str → Option Value} {base : Heap} {a : AD} (T : Txt P K mg a) (G__law_is : FnA P w K mg base 2 a.f__law_is ["_law_told", "_law_due"] (sp__law_is a)) : FnA P w K mg base 3 a.f__law_ints ["_law_told", "_law_due"] (sp__law_ints a) := by
  obtain ⟨fd, F, b⟩ := T.F__law_ints
  refine FnA.of F sc__law_ints b (fun vs H Q E h => by first | (obtain ⟨rfl, _⟩ := h; rfl) | (obtain ⟨_, rfl, _⟩ := h; rfl) | (obtain ⟨_, _, rfl, _⟩ := h; rfl) | (obtain ⟨_, _, _, rfl, _⟩ := h; rfl) | (obtain ⟨_, _, _, _, rfl, _⟩ := h; rfl) | (obtain ⟨_, _, _, _, _, rfl, _⟩ := h; rfl) | (obtain ⟨_, _, _, _, _, _, rfl, _⟩ := h; rfl) | (obtain ⟨_, _, _, _, _, _, _, rfl, _⟩ := h; rfl) | (obtain ⟨_, _, _, _, _, _, _, _, rfl, _⟩ := h; rfl) | (obtain ⟨_, _, _, _, _, _, _, _, _, rfl, _⟩ := h; rfl) | (obtain ⟨_, _, _, _, _, _, _, _, _, _, rfl, _⟩ := h; rfl) | (obtain ⟨_, _, _, _, _, _, _, _, _, _, _, rfl, _⟩ := h; rfl) | (obtain ⟨_, _, _, _, _, _, _, _, _, _, _, _, rfl, _⟩ := h; rfl) | (obtain ⟨_, _, _, _, _, _, _, _, _, _, _, _, _, rfl, _⟩ := h; rfl) | (obtain ⟨_, _, _, _, _, _, _, _, _, _, _, _, _, _, rfl, _⟩ := h; rfl) | (obtain ⟨_, _, _, _, _, _, _, _, _, _, _, _, _, _, _, rfl, _⟩ := h; rfl) | (obtain ⟨_, _, _, _, _, _, _, _, _, _, _, _, _, _, _, _, rfl, _⟩ := h; rfl) | (obtain ⟨_, _, _, _, _, _, _, _, _, _, _, _, _, _, _, _, _, rfl, _⟩ := h; rfl) | (obtain ⟨_, _, _, _, _, _, _, _, _, _, _, _, _, _, _, _, _, _, rfl, _⟩ := h; rfl) | (obtain ⟨_, _, _, _, _, _, _, _, _, _, _, _, _, _, _, _, _, _, _, rfl, _⟩ := h; rfl) | (obtain ⟨_, _, _, _, _, _, _, _, _, _, _, _, _, _, _, _, _, _, _, _, rfl, _⟩ := h; rfl) | (obtain ⟨_, _, _, _, _, _, _, _, _, _, _, _, _, _, _, _, _, _, _, _, _, rfl, _⟩ := h; rfl) | (obtain ⟨_, _, _, _, _, _, _, _, _, _, _, _, _, _, _, _, _, _, _, _, _, _, rfl, _⟩ := h; rfl) | (obtain ⟨_, _, _, _, _, _, _, _, _, _, _, _, _, _, _, _, _, _, _, _, _, _, _, rfl, _⟩ := h; rfl)) (fun cdv A outer s H vs Q E hr tk pz h => ?_)
  have hu := hr.units
  have hrH := L2H.roomH_of hr
  obtain ⟨p, q, us, ds, rfl, hp, hq, hl1, hl2, k⟩ := h
  refine ⟨_, (pss_cons (ps_if (PW.pt (pw_or (pt_not (pt_tru (pe_callB (call_isi) rfl T.b_isinstance (by decide +kernel) (pa_cons (pv 0) (pa_cons (pe_bltn (v := .ty "list") rfl T.b_list (by decide +kernel) rfl) pa_nil))))) (pw_or1 (pt_cmpA (o_ne hu) (pe_callB (b_len) rfl T.b_len (by decide +kernel) (pa_cons (pv 0) pa_nil)) (pe_callB (b_len) rfl T.b_len (by decide +kernel) (pa_cons (pv 1) pa_nil)) (nomark _))))) (pss_one (ps_ret pe_bl)) pss_nil)
      (pss_cons (ps_for pz rfl (pi_range1 rfl T.b_range (pa_cons (pe_callB (b_len) rfl T.b_len (by decide +kernel) (pa_cons (pv 1) pa_nil)) pa_nil)) (pg_name (i := 2) sc__law_ints.nd rfl (Or.inl rfl))
      (pss_one (ps_if (pt_not (pt_tru (pe_callA G__law_is (Room.mono hr (by decide)) T.n__law_is tk (pa_cons (pe_ix ix_seq (pv 0) (pv 2) (fun _ _ => rfl)) (pa_cons (pe_ix ix_seq (pv 1) (pv 2) (fun _ _ => rfl)) pa_nil))))) (pss_one (ps_ret pe_bl)) pss_nil)))
      (pss_one (ps_ret pe_bl)))), ?_⟩
  show (_ : Ends → L2.St → Hp → Prop) _ [some _, some _, none] _
  try dsimp only [L2H.cxH, cxOf]
  walk_at "w"
  refine w_iteN (fun c => ?_) (fun c => ?_)
  · walk_at "w"
    rw [show decide (us = ds) = false by simp; intro z; exact c (by rw [z])] at k
    exact k
  · walk_at "w"
    refine w_rng1 (n := (ds.length : Int)) (by omega) (by omega) (fun i σ' H' => (∃ x, σ' = [some (.ref p), some (.ref q), x]) ∧ H' = H ∧ ∀ j, j < i → us.getD j default = ds.getD j default) ⟨⟨_, rfl⟩, rfl, fun j hj => by omega⟩ ?_ ?_
    · rintro i σ' H' hi ⟨⟨x, rfl⟩, rfl, hj⟩
      walk_at "w"
      refine ⟨_, _, rfl, ?_⟩
      walk_at "w"
      refine w_iteN (fun c2 => ?_) (fun c2 => ?_)
      · walk_at "w"
        rw [ne_atI c2] at k
        exact k
      · walk_at "w"
        refine ⟨⟨_, rfl⟩, rfl, fun j hj' => ?_⟩
        by_cases z : j < i
        · exact hj j z
        · obtain rfl : j = i := by omega
          exact c2
    · rintro σ' H' ⟨⟨x, rfl⟩, rfl, hj⟩
      walk_at "w"
      rw [show decide (us = ds) = true by simp; exact eq_atI (by omega) (fun j h => hj j (by simpa using h))] at k
      exact k
def sp__law_truth (a : AD) : Sp := fun vs H Q _ => ∃ (b d : Bool), vs = [.bl b, .bl d] ∧ Q (.bl (b == d)) H
theorem sc__law_truth : FnScope ["_law_told", "_law_due"] ["_law_told", "_law_due"] (defScope s__law_truth) := ⟨rfl, rfl, rfl, by decide +kernel, rfl, by decide +kernel, by decide +kernel⟩
theorem ok__law_truth {P : Program} {w : World} {K : PySem.W.Frag} {mg : Str → Option Value} {base : Heap} {a : AD} (T : Txt P K mg a) : FnA P w K mg base 2 a.f__law_truth ["_law_told", "_law_due"] (sp__law_truth a) := by
  obtain ⟨fd, F, b⟩ := T.F__law_truth
  refine FnA.of F sc__law_truth b (fun vs H Q E h => by first | (obtain ⟨rfl, _⟩ := h; rfl) | (obtain ⟨_, rfl, _⟩ := h; rfl) | (obtain ⟨_, _, rfl, _⟩ := h; rfl) | (obtain ⟨_, _, _, rfl, _⟩ := h; rfl) | (obtain ⟨_, _, _, _, rfl, _⟩ := h; rfl) | (obtain ⟨_, _, _, _, _, rfl, _⟩ := h; rfl) | (obtain ⟨_, _, _, _, _, _, rfl, _⟩ := h; rfl) | (obtain ⟨_, _, _, _, _, _, _, rfl, _⟩ := h; rfl) | (obtain ⟨_, _, _, _, _, _, _, _, rfl, _⟩ := h; rfl) | (obtain ⟨_, _, _, _, _, _, _, _, _, rfl, _⟩ := h; rfl) | (obtain ⟨_, _, _, _, _, _, _, _, _, _, rfl, _⟩ := h; rfl) | (obtain ⟨_, _, _, _, _, _, _, _, _, _, _, rfl, _⟩ := h; rfl) | (obtain ⟨_, _, _, _, _, _, _, _, _, _, _, _, rfl, _⟩ := h; rfl) | (obtain ⟨_, _, _, _, _, _, _, _, _, _, _, _, _, rfl, _⟩ := h; rfl) | (obtain ⟨_, _, _, _, _, _, _, _, _, _, _, _, _, _, rfl, _⟩ := h; rfl) | (obtain ⟨_, _, _, _, _, _, _, _, _, _, _, _, _, _, _, rfl, _⟩ := h; rfl) | (obtain ⟨_, _, _, _, _, _, _, _, _, _, _, _, _, _, _, _, rfl, _⟩ := h; rfl) | (obtain ⟨_, _, _, _, _, _, _, _, _, _, _, _, _, _, _, _, _, rfl, _⟩ := h; rfl) | (obtain ⟨_, _, _, _, _, _, _, _, _, _, _, _, _, _, _, _, _, _, rfl, _⟩ := h; rfl) | (obtain ⟨_, _, _, _, _, _, _, _, _, _, _, _, _, _, _, _, _, _, _, rfl, _⟩ := h; rfl) | (obtain ⟨_, _, _, _, _, _, _, _, _, _, _, _, _, _, _, _, _, _, _, _, rfl, _⟩ := h; rfl) | (obtain ⟨_, _, _, _, _, _, _, _, _, _, _, _, _, _, _, _, _, _, _, _, _, rfl, _⟩ := h; rfl) | (obtain ⟨_, _, _, _, _, _, _, _, _, _, _, _, _, _, _, _, _, _, _, _, _, _, rfl, _⟩ := h; rfl) | (obtain ⟨_, _, _, _, _, _, _, _, _, _, _, _, _, _, _, _, _, _, _, _, _, _, _, rfl, _⟩ := h; rfl)) (fun cdv A outer s H vs Q E hr tk pz h => ?_)
  have hu := hr.units
  have hrH := L2H.roomH_of hr
  obtain ⟨b, d, rfl, k⟩ := h
  refine ⟨_, (pss_cons (ps_if (pt_tru (pv 1)) (pss_one (ps_ret (pe_cmpR o_isB (pv 0) pe_bl (nomark _)))) pss_nil)
      (pss_one (ps_ret (pe_cmpR o_isB (pv 0) pe_bl (nomark _))))), ?_⟩
  show (_ : Ends → L2.St → Hp → Prop) _ [some _, some _] _
  try dsimp only [L2H.cxH, cxOf]
  walk_at "w"
  cases b <;> cases d <;> (walk_at "w"; exact k)

/-! ### the book's text -/
theorem join_ne {us : List Int} (hne : us ≠ []) (h : ∀ u ∈ us, 0 ≤ u) : Txt.join " " (us.map strI) ≠ ("" : Str) := by
  intro e
  have hs := split_nums hne h
  rw [e, show Txt.split ("" : Str) " " = [("" : Str)] by decide +kernel] at hs
  cases us with
  | nil => exact hne rfl
  | cons u rest =>
    rw [List.map_cons] at hs
    injection hs with h1 h2
    have h3 := congrArg TL.tl h1
    rw [tl_strI (h u List.mem_cons_self)] at h3
    exact TL.numL_ne _ (h3.symm.trans (by decide +kernel))
theorem outs0 {n : Int} {F : List Bool} (n0 : 0 ≤ n) (h : F.getD 0 default = false) : (List.range (n + 1).toNat).filterMap (fun i : Nat => if F.getD i default = true then some (strI (i : Int)) else none) = (outL n F).map strI := by
  rw [show (n + 1).toNat = n.toNat + 1 by omega, List.range_succ_eq_map, List.filterMap_cons, h, if_neg Bool.false_ne_true]
  unfold outL
  rw [List.filterMap_map, List.map_filterMap]
  apply fm_congr
  intro i _
  show (if F.getD (i + 1) default = true then some (strI ((i + 1 : Nat) : Int)) else none) = Option.map strI (if F.getD (i + 1) default = true then some (1 + (i : Int)) else none)
  by_cases c : F.getD (i + 1) default = true
  · rw [if_pos c, if_pos c, show ((i + 1 : Nat) : Int) = 1 + (i : Int) by omega]; rfl
  · rw [if_neg c, if_neg c]; rfl
def sp__law_dump (a : AD) : Sp := fun vs H Q _ => ∃ (w : Addr) (n : Int) (s : St3), vs = [.ref w] ∧ Bkx H w n s ∧ WFs n s ∧ ∀ H', Kp [] H H' → Q (.str (textOf n s.1 s.2.1 s.2.2)) H'
theorem sc__law_dump : FnScope ["_law_book", "_law_size", "_law_link", "_law_first", "_law_second", "_law_node", "_law_outs", "_law_third"] ["_law_book"] (defScope s__law_dump) := ⟨rfl, rfl, rfl, by decide +kernel, rfl, by decide +kernel, by decide +kernel⟩
theorem ok__law_dump {P : Program} {w : World} {K : PySem.W.Frag} {mg : Str → Option Value} {base : Heap} {a : AD} (T : Txt P K mg a) : FnA P w K mg base 2 a.f__law_dump ["_law_book"] (sp__law_dump a) := by
  obtain ⟨fd, F, b⟩ := T.F__law_dump
  refine FnA.of F sc__law_dump b (fun vs H Q E h => by first | (obtain ⟨rfl, _⟩ := h; rfl) | (obtain ⟨_, rfl, _⟩ := h; rfl) | (obtain ⟨_, _, rfl, _⟩ := h; rfl) | (obtain ⟨_, _, _, rfl, _⟩ := h; rfl) | (obtain ⟨_, _, _, _, rfl, _⟩ := h; rfl) | (obtain ⟨_, _, _, _, _, rfl, _⟩ := h; rfl) | (obtain ⟨_, _, _, _, _, _, rfl, _⟩ := h; rfl) | (obtain ⟨_, _, _, _, _, _, _, rfl, _⟩ := h; rfl) | (obtain ⟨_, _, _, _, _, _, _, _, rfl, _⟩ := h; rfl) | (obtain ⟨_, _, _, _, _, _, _, _, _, rfl, _⟩ := h; rfl) | (obtain ⟨_, _, _, _, _, _, _, _, _, _, rfl, _⟩ := h; rfl) | (obtain ⟨_, _, _, _, _, _, _, _, _, _, _, rfl, _⟩ := h; rfl) | (obtain ⟨_, _, _, _, _, _, _, _, _, _, _, _, rfl, _⟩ := h; rfl) | (obtain ⟨_, _, _, _, _, _, _, _, _, _, _, _, _, rfl, _⟩ := h; rfl) | (obtain ⟨_, _, _, _, _, _, _, _, _, _, _, _, _, _, rfl, _⟩ := h; rfl) | (obtain ⟨_, _, _, _, _, _, _, _, _, _, _, _, _, _, _, rfl, _⟩ := h; rfl) | (obtain ⟨_, _, _, _, _, _, _, _, _, _, _, _, _, _, _, _, rfl, _⟩ := h; rfl) | (obtain ⟨_, _, _, _, _, _, _, _, _, _, _, _, _, _, _, _, _, rfl, _⟩ := h; rfl) | (obtain ⟨_, _, _, _, _, _, _, _, _, _, _, _, _, _, _, _, _, _, rfl, _⟩ := h; rfl) | (obtain ⟨_, _, _, _, _, _, _, _, _, _, _, _, _, _, _, _, _, _, _, rfl, _⟩ := h; rfl) | (obtain ⟨_, _, _, _, _, _, _, _, _, _, _, _, _, _, _, _, _, _, _, _, rfl, _⟩ := h; rfl) | (obtain ⟨_, _, _, _, _, _, _, _, _, _, _, _, _, _, _, _, _, _, _, _, _, rfl, _⟩ := h; rfl) | (obtain ⟨_, _, _, _, _, _, _, _, _, _, _, _, _, _, _, _, _, _, _, _, _, _, rfl, _⟩ := h; rfl) | (obtain ⟨_, _, _, _, _, _, _, _, _, _, _, _, _, _, _, _, _, _, _, _, _, _, _, rfl, _⟩ := h; rfl)) (fun cdv A outer s H vs Q E hr tk pz h => ?_)
  have hu := hr.units
  have hrH := L2H.roomH_of hr
  obtain ⟨w, n, ⟨R, L, F⟩, rfl, ⟨l, r, f, hw, hl, hr', hf, _⟩, W, k⟩ := h
  refine ⟨_, (pss_cons (ps_set (i := 1) sc__law_dump.nd rfl (Or.inl rfl) (pe_ix ix_seq (pv 0) pe_int (fun _ _ => rfl)))
      (pss_cons (ps_set (i := 3) sc__law_dump.nd rfl (Or.inl rfl) (pe_bm PySem.F.plainAttrs_str PySem.F.slot_str_join PySem.F.type_str_join m_join pe_str (pa_cons (pe_lc (own := [("_law_link", 2)]) (g := (gName 2)) (tt := tYes) rfl sc__law_dump.nd (pi_list (pe_slice sl_any (pe_ix ix_seq (pv 0) pe_int (fun _ _ => rfl)) po_none (po_some (pe_op o_add (pv 1) pe_int)))) (blkOk_by (own := [("_law_link", 2)]) (N := ["_law_book", "_law_size", "_law_link", "_law_first", "_law_second", "_law_node", "_law_outs", "_law_third"]) (sc := defScope s__law_dump) (by decide +kernel)) (fun _ _ _ _ _ => (pg_name (i := 2) sc__law_dump.nd rfl (Or.inl rfl))) (fun _ _ _ _ _ => pts_nil) (fun _ _ _ _ _ => (pe_callTy b_str rfl T.b_str (by decide +kernel) (pa_cons (pv 2) pa_nil)))) pa_nil)))
      (pss_cons (ps_set (i := 4) sc__law_dump.nd rfl (Or.inl rfl) (pe_bm PySem.F.plainAttrs_str PySem.F.slot_str_join PySem.F.type_str_join m_join pe_str (pa_cons (pe_lc (own := [("_law_link", 2)]) (g := (gName 2)) (tt := tYes) rfl sc__law_dump.nd (pi_list (pe_slice sl_any (pe_ix ix_seq (pv 0) pe_int (fun _ _ => rfl)) (po_some pe_int) po_none)) (blkOk_by (own := [("_law_link", 2)]) (N := ["_law_book", "_law_size", "_law_link", "_law_first", "_law_second", "_law_node", "_law_outs", "_law_third"]) (sc := defScope s__law_dump) (by decide +kernel)) (fun _ _ _ _ _ => (pg_name (i := 2) sc__law_dump.nd rfl (Or.inl rfl))) (fun _ _ _ _ _ => pts_nil) (fun _ _ _ _ _ => (pe_callTy b_str rfl T.b_str (by decide +kernel) (pa_cons (pv 2) pa_nil)))) pa_nil)))
      (pss_cons (ps_setLc (i := 6) (own := [("_law_node", 5)]) (g := (gName 5)) rfl sc__law_dump.nd rfl rfl (sw_true rfl rfl rfl (by decide +kernel)) (pi_range2 rfl T.b_range (pa_cons pe_int (pa_cons (pe_op o_add (pv 1) pe_int) pa_nil))) (blkOk_by (own := [("_law_node", 5)]) (N := ["_law_book", "_law_size", "_law_link", "_law_first", "_law_second", "_law_node", "_law_outs", "_law_third"]) (sc := defScope s__law_dump) (by decide +kernel)) (fun _ _ _ _ _ => (pg_name (i := 5) sc__law_dump.nd rfl (Or.inl rfl))) (fun _ _ _ _ _ => (pts_one (show PT _ _ (cTru K _) from (pt_tru (pe_ix (show IxR _ (rIx K) from ix_seq) (pe_ix (show IxR _ (rIx K) from ix_seq) (pv 0) pe_int (fun _ _ => rfl)) (pv 5) (fun _ _ => rfl)))))) (fun _ _ _ _ _ => (pe_callTy b_str rfl T.b_str (by decide +kernel) (pa_cons (pv 5) pa_nil))))
      (pss_cons (ps_set (i := 7) sc__law_dump.nd rfl (Or.inl rfl) pe_str)
      (pss_cut (ps_if (pt_tru (pv 6)) (pss_one (ps_set (i := 7) sc__law_dump.nd rfl (Or.inl rfl) (pe_bm PySem.F.plainAttrs_str PySem.F.slot_str_join PySem.F.type_str_join m_join pe_str (pa_cons (pv 6) pa_nil)))) pss_nil)
      (pss_one (ps_ret (pe_op o_add (pe_op o_add (pe_op o_add (pe_op o_add (pv 3) pe_str) (pv 4)) pe_str) (pv 7)))))))))), ?_⟩
  show (_ : Ends → L2.St → Hp → Prop) _ [some _, none, none, none, none, none, none, none] _
  try dsimp only [L2H.cxH, cxOf]
  have W : WF n R L F := W
  have hl : H l = some (.lst (L.map V.int)) := hl
  have hr' : H r = some (.lst ((R ++ [n + 2]).map V.int)) := hr'
  have hf : H f = some (.lst (F.map V.bl)) := hf
  have k : ∀ H', Kp [] H H' → Q (.str (textOf n R L F)) H' := k
  have n0 := W.n0
  have n1 := W.n1
  have w1 := W.hR
  have w2 := W.hL
  have w3 := W.hF
  have htl := text_len W
  have sp1 : (" " : Str).length = 1 := by decide +kernel
  have s1 := (nums_len W.rs).2
  have s2 := (nums_len W.ls).2
  have s3 := (nums_len W.os).2
  have ol := outL_len n F
  have b1 : ((R.map strI).map (·.length)).sum + (R.map strI).length * (" " : Str).length ≤ 16777216 := by rw [sp1, List.length_map]; omega
  have b2 : (((L.drop 1).map strI).map (·.length)).sum + ((L.drop 1).map strI).length * (" " : Str).length ≤ 16777216 := by rw [sp1, List.length_map]; rw [List.length_drop] at s2 ⊢; omega
  have b3 : (((outL n F).map strI).map (·.length)).sum + ((outL n F).map strI).length * (" " : Str).length ≤ 16777216 := by rw [sp1, List.length_map]; omega
  have ecut : cut (R ++ [n + 2]) none (some (n + 1)) = R := by
    unfold cut HT.sIx
    dsimp only
    rw [if_neg (by omega), List.drop_zero, Nat.sub_zero, Nat.min_eq_left (by rw [List.length_append]; simp; omega), List.take_append_of_le_length (by omega), List.take_of_length_le (by omega)]
  walk_at "w"
  rw [ecut]
  intro t0 ht0
  have k0 : Kp [] H (upd H t0 (.lst (R.map V.int))) := Kp.refl.new ht0
  have ht01 : upd H t0 (.lst (R.map V.int)) t0 = some (.lst (R.map V.int)) := upd_same
  generalize upd H t0 (.lst (R.map V.int)) = H0 at k0 ht01 ⊢
  walk_at "w"
  refine w_lcM (us := R) (f := V.int) (f' := V.str) (fun o => some (strI o)) ht01 (by rw [sizeLine_eq]; omega) ?_ ?_
  · intro D i u acc H' hD hu hk hA hlen
    have hub := W.rs u (List.mem_of_getElem? hu)
    walk_at "w"
    refine ⟨rfl, ?_⟩
    walk_at "w"
    exact w_keep hk hA hlen hD rfl
  intro d1 H1 hd1 hk1 hA1
  rw [fm_some] at hA1
  have k1 := k0.trans0 hk1
  have hw1 := k1.at0 hw
  have hl1 := k1.at0 hl
  walk_at "w"
  rw [cut_tail]
  intro t ht
  have k4 : Kp [] H (upd H1 t (.lst ((L.drop 1).map V.int))) := k1.new ht
  have ht4 : upd H1 t (.lst ((L.drop 1).map V.int)) t = some (.lst ((L.drop 1).map V.int)) := upd_same
  generalize upd H1 t (.lst ((L.drop 1).map V.int)) = H4 at k4 ht4 ⊢
  walk_at "w"
  refine w_lcM (us := L.drop 1) (f := V.int) (f' := V.str) (fun o => some (strI o)) ht4 (by rw [sizeLine_eq, List.length_drop]; omega) ?_ ?_
  · intro D i u acc H' hD hu hk hA hlen
    have hub := W.ls u (List.mem_of_getElem? hu)
    walk_at "w"
    refine ⟨rfl, ?_⟩
    walk_at "w"
    exact w_keep hk hA hlen hD rfl
  intro d2 H5 hd2 hk5 hA5
  rw [fm_some] at hA5
  have k5 := k4.trans0 hk5
  have hw5 := k5.at0 hw
  have hf5 := k5.at0 hf
  walk_at "w"
  refine w_lcR2 (f' := V.str) (fun i : Nat => if F.getD (i + 1) default = true then some (strI (1 + (i : Int))) else none) (lo := 1) (n := n + 1) (by omega) (by omega) (by omega) (by omega) (by rw [sizeLine_eq]; omega) ?_ ?_
  · intro D i acc H' hD hi hk hA hlen
    have hw6 := hk.at0 hw5
    have hf6 := hk.at0 hf5
    walk_at "w"
    refine ⟨rfl, ?_⟩
    walk_at "w"
    rw [show (1 + (i : Int)).toNat = i + 1 by omega]
    refine w_iteb (fun c => ?_) (fun c => ?_)
    · walk_at "w"
      exact w_keep hk hA hlen hD (by rw [if_pos c]; rfl)
    · walk_at "w"
      exact w_drop hk hA (by rw [if_neg (by rw [c]; exact Bool.false_ne_true)])
  intro g H6 hg hk6 hG
  have eo : (List.range (n + 1 - 1).toNat).filterMap (fun i : Nat => if F.getD (i + 1) default = true then some (strI (1 + (i : Int))) else none) = (outL n F).map strI := by
    unfold outL
    rw [List.map_filterMap, show (n + 1 - 1).toNat = n.toNat by omega]
    apply fm_congr
    intro i _
    split <;> rfl
  rw [eo] at hG
  have k6 := k5.trans0 hk6
  walk_at "w"
  refine s_cut (fun σ' H2 => H2 = H6 ∧ ∃ z1 z4 z5 z6, σ' = [some (.ref w), z1, z4, some (.str (Txt.join " " (R.map strI))), some (.str (Txt.join " " ((L.drop 1).map strI))), z5, z6, some (.str (goneT n F))]) ?_ ?_
  · walk_at "w"
    unfold goneT
    by_cases e : outL n F = []
    · rw [if_pos e, e]
      rw [if_neg (by simp)]
      walk_at "w"
      exact ⟨rfl, _, _, _, _, rfl⟩
    · rw [if_neg e, if_pos (by simpa using e)]
      walk_at "w"
      exact ⟨rfl, _, _, _, _, rfl⟩
  · rintro σ' H2 ⟨e, z1, z4, z5, z6, rfl⟩
    subst e
    have hb : (" | " : Str).length = 3 := by decide +kernel
    have l1 : (Txt.join " " (R.map strI) ++ " | ").length = (Txt.join " " (R.map strI)).length + 3 := by rw [len_app, hb]
    have l2 : (Txt.join " " (R.map strI) ++ " | " ++ Txt.join " " ((L.drop 1).map strI)).length = (Txt.join " " (R.map strI)).length + 3 + (Txt.join " " ((L.drop 1).map strI)).length := by rw [len_app, l1]
    have l3 : (Txt.join " " (R.map strI) ++ " | " ++ Txt.join " " ((L.drop 1).map strI) ++ " | ").length = (Txt.join " " (R.map strI)).length + 3 + (Txt.join " " ((L.drop 1).map strI)).length + 3 := by rw [len_app, l2, hb]
    walk_at "w"
    exact k H2 k6

/-! ### what the modes admit -/
theorem lo_at {n : Int} {s : St3} (W : WFs n s) {v : Int} (v1 : 1 ≤ v) (v2 : v ≤ n) : 0 ≤ lowOf s v ∧ lowOf s v < v ∧ v < highOf s v ∧ highOf s v ≤ n + 1 := st_lo W v1 v2
theorem mv_lho {n : Int} {s : St3} (W : WFs n s) {v g : Int} (v1 : 1 ≤ v) (v2 : v ≤ n) (g0 : 0 ≤ g) (g1 : g ≤ n) : lho (mvS s v) g ↔ if g = lowOf s v then (s.2.2.getD v.toNat default = true ∧ lowOf s v = v - 1) else lho s g := by
  have q := lo_at W v1 v2
  have hR := WF.hR W
  unfold lho
  rw [mvS_eq v1 v2]
  show (s.1.set (lowOf s v).toNat (if s.2.2.getD v.toNat default = true then v else highOf s v)).getD g.toNat default = g + 1 ↔ _
  by_cases c : g = lowOf s v
  · rw [if_pos c, ← c, getD_set_eq (by omega)]
    by_cases c2 : s.2.2.getD v.toNat default = true
    · rw [if_pos c2]
      exact ⟨fun z => ⟨c2, by omega⟩, fun z => by omega⟩
    · rw [if_neg c2]
      exact ⟨fun z => by omega, fun z => absurd z.1 c2⟩
  · rw [if_neg c, getD_set_ne (by omega)]
theorem mv_rho {n : Int} {s : St3} (W : WFs n s) {v g : Int} (v1 : 1 ≤ v) (v2 : v ≤ n) (g0 : 0 ≤ g) (g1 : g ≤ n) : rho (mvS s v) g ↔ if g = highOf s v - 1 then (s.2.2.getD v.toNat default = true ∧ highOf s v = v + 1) else rho s g := by
  have q := lo_at W v1 v2
  have hL := WF.hL W
  unfold rho
  rw [mvS_eq v1 v2]
  show (s.2.1.set (highOf s v).toNat (if s.2.2.getD v.toNat default = true then v else lowOf s v)).getD (g + 1).toNat default = g ↔ _
  by_cases c : g = highOf s v - 1
  · rw [if_pos c, show (g + 1).toNat = (highOf s v).toNat by omega, getD_set_eq (by omega)]
    by_cases c2 : s.2.2.getD v.toNat default = true
    · rw [if_pos c2]
      exact ⟨fun z => ⟨c2, by omega⟩, fun z => by omega⟩
    · rw [if_neg c2]
      exact ⟨fun z => by omega, fun z => absurd z.1 c2⟩
  · rw [if_neg c, getD_set_ne (by omega)]
theorem mv_inn {n : Int} {s : St3} (W : WFs n s) {v u : Int} (v1 : 1 ≤ v) (v2 : v ≤ n) (u0 : 0 ≤ u) (u1 : u ≤ n + 1) : inn (mvS s v) u ↔ if u = v then s.2.2.getD v.toNat default = true else inn s u := by
  have hF := WF.hF W
  unfold inn
  rw [mvS_eq v1 v2]
  show (s.2.2.set v.toNat (!s.2.2.getD v.toNat default)).getD u.toNat default = false ↔ _
  by_cases c : u = v
  · rw [if_pos c, c, getD_set_eq (by omega)]
    simp
  · rw [if_neg c, getD_set_ne (by omega)]
theorem low_rho {s : St3} {v : Int} (h : lowOf s v = v - 1) : rho s (v - 1) := by
  unfold rho
  rw [show v - 1 + 1 = v by omega]
  exact h
theorem high_lho {s : St3} {v : Int} (h : highOf s v = v + 1) : lho s v := h
theorem rho_low {s : St3} {v : Int} (h : rho s (v - 1)) : lowOf s v = v - 1 := by
  unfold rho at h
  rw [show v - 1 + 1 = v by omega] at h
  exact h
theorem lho_high {s : St3} {v : Int} (h : lho s v) : highOf s v = v + 1 := h
def locP (s : St3) (v : Int) : Prop := inn s (lowOf s v) ∧ inn s (highOf s v) ∧ (if s.2.2.getD v.toNat default = true then s.1.getD (lowOf s v).toNat default = highOf s v ∧ s.2.1.getD (highOf s v).toNat default = lowOf s v else s.1.getD (lowOf s v).toNat default = v ∧ s.2.1.getD (highOf s v).toNat default = v)
theorem loc_eq {n : Int} {s : St3} {v : Int} (v1 : 1 ≤ v) (v2 : v ≤ n) : localP s (opF s v) ↔ locP s v := by
  have hO := opF_ok (s := s) v1 v2
  unfold localP locP
  rw [hO.2.1, show ((v.toNat : Nat) : Int) = v by omega]
  unfold opF
  by_cases c : s.2.2.getD v.toNat default = true
  · rw [if_pos c, if_pos c, if_neg (by omega)]
  · rw [if_neg c, if_neg c, if_pos (by omega)]

/-! ### the law's own refusals -/
theorem lost_mem {n : Int} {s : St3} {g : Int} : g ∈ lostF n s.1 s.2.1 ↔ 0 ≤ g ∧ g ≤ n ∧ ¬lho s g ∧ ¬rho s g := by
  unfold lostF
  rw [List.mem_filterMap]
  constructor
  · rintro ⟨i, hi, e⟩
    have hi := List.mem_range.mp hi
    split at e
    · rename_i q
      cases e
      exact ⟨by omega, by omega, state_lost.mp q⟩
    · cases e
  · rintro ⟨g0, g1, h⟩
    refine ⟨g.toNat, List.mem_range.mpr (by omega), ?_⟩
    rw [show ((g.toNat : Nat) : Int) = g by omega, if_pos (state_lost.mpr h)]
theorem new_lost {n : Int} {s : St3} (W : WFs n s) {v : Int} (v1 : 1 ≤ v) (v2 : v ≤ n) : (lostF n (mvS s v).1 (mvS s v).2.1).filterMap (fun g => if g ∈ lostF n s.1 s.2.1 then none else some g) = [] ↔ ¬losesP s v := by
  have q := lo_at W v1 v2
  rw [List.filterMap_eq_nil_iff]
  constructor
  · rintro h (⟨⟨c1, c2⟩, c3⟩ | ⟨⟨c1, c2⟩, c3⟩)
    · have := h (lowOf s v) (lost_mem.mpr ⟨by omega, by omega, by
        rw [mv_lho W v1 v2 (by omega) (by omega), if_pos rfl]
        exact fun z => c1 z.2, by
        rw [mv_rho W v1 v2 (by omega) (by omega), if_neg (by omega)]
        exact c3⟩)
      rw [if_neg (fun z => (lost_mem.mp z).2.2.1 c2)] at this
      cases this
    · have := h (highOf s v - 1) (lost_mem.mpr ⟨by omega, by omega, by
        rw [mv_lho W v1 v2 (by omega) (by omega), if_neg (by omega)]
        exact c3, by
        rw [mv_rho W v1 v2 (by omega) (by omega), if_pos rfl]
        exact fun z => c1 z.2⟩)
      rw [if_neg (fun z => (lost_mem.mp z).2.2.2 c2)] at this
      cases this
  · intro h g hg
    obtain ⟨g0, g1, h1, h2⟩ := lost_mem.mp hg
    rw [if_pos]
    refine lost_mem.mpr ⟨g0, g1, ?_⟩
    rw [mv_lho W v1 v2 g0 g1] at h1
    rw [mv_rho W v1 v2 g0 g1] at h2
    by_cases c1 : g = lowOf s v
    · subst c1
      rw [if_pos rfl] at h1
      rw [if_neg (by omega)] at h2
      refine ⟨fun z => h (.inl ⟨⟨fun e => ?_, z⟩, h2⟩), h2⟩
      rw [e] at h2
      exact h2 (low_rho e)
    · rw [if_neg c1] at h1
      by_cases c2 : g = highOf s v - 1
      · subst c2
        rw [if_pos rfl] at h2
        refine ⟨h1, fun z => h (.inr ⟨⟨fun e => ?_, z⟩, h1⟩)⟩
        rw [e, show v + 1 - 1 = v by omega] at h1
        exact h1 (high_lho e)
      · rw [if_neg c2] at h2
        exact ⟨h1, h2⟩
theorem soles_iff {s : St3} {v : Int} (h : ¬losesP s v) : solesP s v ↔ ((lowOf s v ≠ v - 1 ∧ lho s (lowOf s v) ∧ inn s (lowOf s v + 1)) ∨ (highOf s v ≠ v + 1 ∧ rho s (highOf s v - 1) ∧ inn s (highOf s v - 1))) := by
  unfold losesP at h
  unfold solesP
  unfold fwA fwB at *
  constructor
  · rintro (⟨⟨c1, c2⟩, c3⟩ | ⟨⟨c1, c2⟩, c3⟩)
    · exact .inl ⟨c1, c2, c3.resolve_left fun z => h (.inl ⟨⟨c1, c2⟩, z⟩)⟩
    · exact .inr ⟨c1, c2, c3.resolve_left fun z => h (.inr ⟨⟨c1, c2⟩, z⟩)⟩
  · rintro (⟨c1, c2, c3⟩ | ⟨c1, c2, c3⟩)
    · exact .inl ⟨⟨c1, c2⟩, .inr c3⟩
    · exact .inr ⟨⟨c1, c2⟩, .inr c3⟩
def sp__law_refusing (a : AD) : Sp := fun vs H Q _ => ∃ (w : Addr) (n v : Int) (s : St3) (k : Nat), vs = [.ref w, .int v, .str (wordM k)] ∧ k ≤ 3 ∧ Bkx H w n s ∧ WFs n s ∧ 1 ≤ v ∧ v ≤ n ∧ ∀ H', Kp [] H H' → Q (.str (refM s (opF s v) k)) H'
theorem sc__law_refusing : FnScope ["_law_book", "_law_node", "_law_word", "_law_known", "_law_gap", "_law_lower", "_law_upper", "_law_first", "_law_second"] ["_law_book", "_law_node", "_law_word"] (defScope s__law_refusing) := ⟨rfl, rfl, rfl, by decide +kernel, rfl, by decide +kernel, by decide +kernel⟩
theorem ok__law_refusing {P : Program} {w : World} {K : PySem.W.Frag} {mg : Str → Option Value} {base : Heap} {a : AD} (T : Txt P K mg a) (G__law_lost : FnA P w K mg base 2 a.f__law_lost ["_law_book"] (sp__law_lost a)) (G__law_moved : FnA P w K mg base 2 a.f__law_moved ["_law_book", "_law_node"] (sp__law_moved a)) : FnA P w K mg base 3 a.f__law_refusing ["_law_book", "_law_node", "_law_word"] (sp__law_refusing a) := by
  obtain ⟨fd, F, b⟩ := T.F__law_refusing
  refine FnA.of F sc__law_refusing b (fun vs H Q E h => by first | (obtain ⟨rfl, _⟩ := h; rfl) | (obtain ⟨_, rfl, _⟩ := h; rfl) | (obtain ⟨_, _, rfl, _⟩ := h; rfl) | (obtain ⟨_, _, _, rfl, _⟩ := h; rfl) | (obtain ⟨_, _, _, _, rfl, _⟩ := h; rfl) | (obtain ⟨_, _, _, _, _, rfl, _⟩ := h; rfl) | (obtain ⟨_, _, _, _, _, _, rfl, _⟩ := h; rfl) | (obtain ⟨_, _, _, _, _, _, _, rfl, _⟩ := h; rfl) | (obtain ⟨_, _, _, _, _, _, _, _, rfl, _⟩ := h; rfl) | (obtain ⟨_, _, _, _, _, _, _, _, _, rfl, _⟩ := h; rfl) | (obtain ⟨_, _, _, _, _, _, _, _, _, _, rfl, _⟩ := h; rfl) | (obtain ⟨_, _, _, _, _, _, _, _, _, _, _, rfl, _⟩ := h; rfl) | (obtain ⟨_, _, _, _, _, _, _, _, _, _, _, _, rfl, _⟩ := h; rfl) | (obtain ⟨_, _, _, _, _, _, _, _, _, _, _, _, _, rfl, _⟩ := h; rfl) | (obtain ⟨_, _, _, _, _, _, _, _, _, _, _, _, _, _, rfl, _⟩ := h; rfl) | (obtain ⟨_, _, _, _, _, _, _, _, _, _, _, _, _, _, _, rfl, _⟩ := h; rfl) | (obtain ⟨_, _, _, _, _, _, _, _, _, _, _, _, _, _, _, _, rfl, _⟩ := h; rfl) | (obtain ⟨_, _, _, _, _, _, _, _, _, _, _, _, _, _, _, _, _, rfl, _⟩ := h; rfl) | (obtain ⟨_, _, _, _, _, _, _, _, _, _, _, _, _, _, _, _, _, _, rfl, _⟩ := h; rfl) | (obtain ⟨_, _, _, _, _, _, _, _, _, _, _, _, _, _, _, _, _, _, _, rfl, _⟩ := h; rfl) | (obtain ⟨_, _, _, _, _, _, _, _, _, _, _, _, _, _, _, _, _, _, _, _, rfl, _⟩ := h; rfl) | (obtain ⟨_, _, _, _, _, _, _, _, _, _, _, _, _, _, _, _, _, _, _, _, _, rfl, _⟩ := h; rfl) | (obtain ⟨_, _, _, _, _, _, _, _, _, _, _, _, _, _, _, _, _, _, _, _, _, _, rfl, _⟩ := h; rfl) | (obtain ⟨_, _, _, _, _, _, _, _, _, _, _, _, _, _, _, _, _, _, _, _, _, _, _, rfl, _⟩ := h; rfl)) (fun cdv A outer s H vs Q E hr tk pz h => ?_)
  have hu := hr.units
  have hrH := L2H.roomH_of hr
  obtain ⟨w, n, v, s, m, rfl, hm, hB, W, v1, v2, k⟩ := h
  refine ⟨_, (pss_cons (ps_if (pt_cmpA (o_eq hu) (pv 2) pe_str (nomark _)) (pss_one (ps_ret pe_str)) pss_nil)
      (pss_cons (ps_set (i := 3) sc__law_refusing.nd rfl (Or.inr rfl) (pe_callA G__law_lost (Room.mono hr (by decide)) T.n__law_lost tk (pa_cons (pv 0) pa_nil)))
      (pss_cons (ps_if (pt_tru (pe_lc (own := [("_law_gap", 4)]) (g := (gName 4)) rfl sc__law_refusing.nd (pi_list (pe_callA G__law_lost (Room.mono hr (by decide)) T.n__law_lost tk (pa_cons (pe_callA G__law_moved (Room.mono hr (by decide)) T.n__law_moved tk (pa_cons (pv 0) (pa_cons (pv 1) pa_nil))) pa_nil))) (blkOk_by (own := [("_law_gap", 4)]) (N := ["_law_book", "_law_node", "_law_word", "_law_known", "_law_gap", "_law_lower", "_law_upper", "_law_first", "_law_second"]) (sc := defScope s__law_refusing) (by decide +kernel)) (fun _ _ _ _ _ => (pg_name (i := 4) sc__law_refusing.nd rfl (Or.inl rfl))) (fun _ _ _ _ _ => (pts_one (pt_cmpA (show OpR _ _ (rIn K true) from op_notIn_seq) (pv 4) (pv 3) (by rfl)))) (fun _ _ _ _ _ => (pv 4)))) (pss_one (ps_ret pe_str)) pss_nil)
      (pss_cons (ps_if (pt_cmpA (o_eq hu) (pv 2) pe_str (nomark _)) (pss_one (ps_ret pe_str)) pss_nil)
      (pss_cons (ps_set (i := 5) sc__law_refusing.nd rfl (Or.inl rfl) (pe_ix ix_seq (pe_ix ix_seq (pv 0) pe_int (fun _ _ => rfl)) (pv 1) (fun _ _ => rfl)))
      (pss_cons (ps_set (i := 6) sc__law_refusing.nd rfl (Or.inl rfl) (pe_ix ix_seq (pe_ix ix_seq (pv 0) pe_int (fun _ _ => rfl)) (pv 1) (fun _ _ => rfl)))
      (pss_cut (ps_if (PW.pt (pw_and (pt_cmpA (o_ne hu) (pv 5) (pe_op op_sub (pv 1) pe_int) (nomark _)) (pw_and (pt_cmpA (o_eq hu) (pe_ix ix_seq (pe_ix ix_seq (pv 0) pe_int (fun _ _ => rfl)) (pv 5) (fun _ _ => rfl)) (pe_op o_add (pv 5) pe_int) (nomark _)) (pw_and1 (pt_not (pt_tru (pe_ix ix_seq (pe_ix ix_seq (pv 0) pe_int (fun _ _ => rfl)) (pe_op o_add (pv 5) pe_int) (fun _ _ => rfl)))))))) (pss_one (ps_ret pe_str)) pss_nil)
      (pss_cut (ps_if (PW.pt (pw_and (pt_cmpA (o_ne hu) (pv 6) (pe_op o_add (pv 1) pe_int) (nomark _)) (pw_and (pt_cmpA (o_eq hu) (pe_ix ix_seq (pe_ix ix_seq (pv 0) pe_int (fun _ _ => rfl)) (pv 6) (fun _ _ => rfl)) (pe_op op_sub (pv 6) pe_int) (nomark _)) (pw_and1 (pt_not (pt_tru (pe_ix ix_seq (pe_ix ix_seq (pv 0) pe_int (fun _ _ => rfl)) (pe_op op_sub (pv 6) pe_int) (fun _ _ => rfl)))))))) (pss_one (ps_ret pe_str)) pss_nil)
      (pss_cons (ps_if (pt_cmpA (o_eq hu) (pv 2) pe_str (nomark _)) (pss_one (ps_ret pe_str)) pss_nil)
      (pss_cons (ps_set (i := 7) sc__law_refusing.nd rfl (Or.inl rfl) (pv 6))
      (pss_cons (ps_set (i := 8) sc__law_refusing.nd rfl (Or.inl rfl) (pv 5))
      (pss_cut (ps_if (pt_not (pt_tru (pe_ix ix_seq (pe_ix ix_seq (pv 0) pe_int (fun _ _ => rfl)) (pv 1) (fun _ _ => rfl)))) (pss_cons (ps_set (i := 7) sc__law_refusing.nd rfl (Or.inl rfl) (pv 1))
      (pss_one (ps_set (i := 8) sc__law_refusing.nd rfl (Or.inl rfl) (pv 1)))) pss_nil)
      (pss_cons (ps_if (PW.pt (pw_or (pt_tru (pe_ix ix_seq (pe_ix ix_seq (pv 0) pe_int (fun _ _ => rfl)) (pv 5) (fun _ _ => rfl))) (pw_or (pt_tru (pe_ix ix_seq (pe_ix ix_seq (pv 0) pe_int (fun _ _ => rfl)) (pv 6) (fun _ _ => rfl))) (pw_or (pt_cmpA (o_ne hu) (pe_ix ix_seq (pe_ix ix_seq (pv 0) pe_int (fun _ _ => rfl)) (pv 5) (fun _ _ => rfl)) (pv 7) (nomark _)) (pw_or1 (pt_cmpA (o_ne hu) (pe_ix ix_seq (pe_ix ix_seq (pv 0) pe_int (fun _ _ => rfl)) (pv 6) (fun _ _ => rfl)) (pv 8) (nomark _))))))) (pss_one (ps_ret pe_str)) pss_nil)
      (pss_one (ps_ret pe_str))))))))))))))), ?_⟩
  show (_ : Ends → L2.St → Hp → Prop) _ [some _, some _, some _, none, none, none, none, none, none] _
  try dsimp only [L2H.cxH, cxOf]
  have n0 := WF.n0 W
  have n1 := WF.n1 W
  have hO := opF_ok (s := s) v1 v2
  have ea : (((opF s v).natAbs : Nat) : Int) = v := by rw [hO.2.1]; omega
  have q := lo_at W v1 v2
  have eL : s.2.1.getD v.toNat default = lowOf s v := rfl
  have eH : (s.1 ++ [n + 2]).getD v.toNat default = highOf s v := gd_app' W (by omega)
  have ll := lostF_len n s.1 s.2.1
  have ll2 := lostF_len n (mvS s v).1 (mvS s v).2.1
  have nl := new_lost W v1 v2
  obtain ⟨l, r, f, hw, hl, hr', hf, _⟩ := id hB
  by_cases c0 : m = 0
  · subst c0
    walk_at "w"
    exact k H Kp.refl
  have nf : wordM m ≠ "free" := fun z => c0 (word_inj (k := 0) hm (by omega) z)
  have k0 : ∀ H', Kp [] H H' → losesP s v → Q (.str ("saving" : Str)) H' := fun H' hk c => by
    have := k H' hk
    have e : refM s (opF s v) m = ("saving" : Str) := by
      match m, hm with
      | 1, _ => rw [refM_1, ea, if_pos c]
      | 2, _ => rw [refM_2, ea, if_pos c]
      | 3, _ => rw [refM_3, ea, if_pos c]
    rw [e] at this
    exact this
  walk_at "w"
  refine ⟨w, n, s, rfl, hB, W, fun p1 H1 hp1 k1 hq1 => ?_⟩
  walk_at "w"
  refine ⟨w, n, v, s, rfl, hB.kp0 k1, W, v1, v2, fun w2 _ _ _ H2 _ _ _ _ hB2 k2 => ?_⟩
  walk_at "w"
  refine ⟨w2, n, _, rfl, hB2.x, mvS_wf W v1 v2, fun p3 H3 hp3 k3 hq3 => ?_⟩
  have hq13 := (k2.trans k3).at0 hq1
  walk_at "w"
  refine w_lcM (us := lostF n (mvS s v).1 (mvS s v).2.1) (f := V.int) (f' := V.int) (fun g => if g ∈ lostF n s.1 s.2.1 then none else some g) hq3 (by rw [sizeLine_eq]; omega) ?_ ?_
  · intro D i u acc H' hD hu hk hA hlen
    have hq4 := hk.at0 hq13
    walk_at "w"
    refine ⟨rfl, ?_⟩
    walk_at "w"
    refine w_iteN (fun c => ?_) (fun c => ?_)
    · walk_at "w"
      exact w_keep hk hA hlen hD (by rw [if_neg c])
    · walk_at "w"
      exact w_drop hk hA (by rw [if_pos c])
  intro D H4 hD k4 hD4
  have kk := ((k1.trans k2).trans k3).trans k4
  have k := fun H' (z : Kp [] H4 H') => k H' (kk.trans z)
  have k0 := fun H' (z : Kp [] H4 H') => k0 H' (kk.trans z)
  have hw := kk.at0 hw
  have hl := kk.at0 hl
  have hr' := kk.at0 hr'
  have hf := kk.at0 hf
  clear k1 k2 k3 k4 hp1 hp3 hq1 hq3 hq13 hB2 kk hB
  by_cases cl : losesP s v
  · walk_at "w"
    rw [if_pos (by
      have := mt nl.mp (fun z => z cl)
      simpa using this)]
    walk_at "w"
    exact k0 H4 Kp.refl cl
  walk_at "w"
  rw [nl.mpr cl] at hD4 ⊢
  rw [if_neg (by simp)]
  walk_at "w"
  by_cases c1 : m = 1
  · subst c1
    have k := k H4 Kp.refl
    rw [refM_1, ea, if_neg cl] at k
    walk_at "w"
    exact k
  have ns : wordM m ≠ "saving" := fun z => c1 (word_inj (k := 1) hm (by omega) z)
  refine w_iteF ns ?_
  have hso := soles_iff cl
  have hF := WF.hF W
  have hL := WF.hL W
  have hla := bk_len W
  have kG : solesP s v → Q (.str ("guarded" : Str)) H4 := fun c => by
    have := k H4 Kp.refl
    have e : refM s (opF s v) m = ("guarded" : Str) := by
      match m, hm with
      | 2, _ => rw [refM_2, ea, if_neg cl, if_pos c]
      | 3, _ => rw [refM_3, ea, if_neg cl, if_pos c]
    rw [e] at this
    exact this
  have eRl : (s.1 ++ [n + 2]).getD (lowOf s v).toNat default = s.1.getD (lowOf s v).toNat default := gd_app' W (by omega)
  walk_at "w"
  rw [eL]
  walk_at "w"
  rw [eH]
  refine s_cut (fun σ' H' => H' = H4 ∧ σ' = [some (.ref w), some (.int v), some (.str (wordM m)), some (.ref p1), none, some (.int (lowOf s v)), some (.int (highOf s v)), none, none] ∧ ¬(lowOf s v ≠ v - 1 ∧ lho s (lowOf s v) ∧ inn s (lowOf s v + 1))) ?_ ?_
  · walk_at "w"
    refine w_iteN (fun c => ?_) (fun c => ?_)
    · walk_at "w"
      rw [eRl]
      refine w_ite (fun c2 => ?_) (fun c2 => ?_)
      · walk_at "w"
        refine w_itenb (fun c3 => ?_) (fun c3 => ?_)
        · walk_at "w"
          exact kG (hso.mpr (.inl ⟨c, c2, c3⟩))
        · walk_at "w"
          exact ⟨rfl, rfl, fun z => by have := z.2.2; unfold inn at this; rw [c3] at this; cases this⟩
      · walk_at "w"
        exact ⟨rfl, rfl, fun z => c2 z.2.1⟩
    · walk_at "w"
      exact ⟨rfl, rfl, fun z => z.1 c⟩
  rintro σ' H5 ⟨e, rfl, nA⟩
  subst e
  walk_at "w"
  refine s_cut (fun σ' H' => H' = H5 ∧ σ' = [some (.ref w), some (.int v), some (.str (wordM m)), some (.ref p1), none, some (.int (lowOf s v)), some (.int (highOf s v)), none, none] ∧ ¬(highOf s v ≠ v + 1 ∧ rho s (highOf s v - 1) ∧ inn s (highOf s v - 1))) ?_ ?_
  · walk_at "w"
    refine w_iteN (fun c => ?_) (fun c => ?_)
    · walk_at "w"
      refine w_ite (fun c2 => ?_) (fun c2 => ?_)
      · have c2' : rho s (highOf s v - 1) := by unfold rho; rw [show highOf s v - 1 + 1 = highOf s v by omega]; exact c2
        walk_at "w"
        refine w_itenb (fun c3 => ?_) (fun c3 => ?_)
        · walk_at "w"
          exact kG (hso.mpr (.inr ⟨c, c2', c3⟩))
        · walk_at "w"
          exact ⟨rfl, rfl, fun z => by have := z.2.2; unfold inn at this; rw [c3] at this; cases this⟩
      · walk_at "w"
        exact ⟨rfl, rfl, fun z => c2 (by have := z.2.1; unfold rho at this; rw [show highOf s v - 1 + 1 = highOf s v by omega] at this; exact this)⟩
    · walk_at "w"
      exact ⟨rfl, rfl, fun z => z.1 c⟩
  rintro σ' H6 ⟨e, rfl, nB⟩
  subst e
  have cs : ¬solesP s v := fun z => (hso.mp z).elim nA nB
  walk_at "w"
  by_cases c2 : m = 2
  · subst c2
    have k := k H6 Kp.refl
    rw [refM_2, ea, if_neg cl, if_neg cs] at k
    walk_at "w"
    exact k
  obtain rfl : m = 3 := by omega
  have k := k H6 Kp.refl
  rw [refM_3, ea, if_neg cl, if_neg cs] at k
  have kY : locP s v → Q (.str ("" : Str)) H6 := fun z => by rw [if_pos ((loc_eq v1 v2).mpr z)] at k; exact k
  have kN : ¬locP s v → Q (.str ("checked" : Str)) H6 := fun z => by rw [if_neg (fun y => z ((loc_eq v1 v2).mp y))] at k; exact k
  unfold locP at kY kN
  walk_at "w"
  refine s_cut (fun σ' H' => H' = H6 ∧ σ' = [some (.ref w), some (.int v), some (.str (wordM 3)), some (.ref p1), none, some (.int (lowOf s v)), some (.int (highOf s v)), some (.int (if s.2.2.getD v.toNat default = true then highOf s v else v)), some (.int (if s.2.2.getD v.toNat default = true then lowOf s v else v))]) ?_ ?_
  · walk_at "w"
    refine w_itenb (fun c => ?_) (fun c => ?_)
    · walk_at "w"
      refine ⟨rfl, ?_⟩
      rw [if_neg (by rw [c]; simp), if_neg (by rw [c]; simp)]
      rfl
    · walk_at "w"
      refine ⟨rfl, ?_⟩
      rw [if_pos c, if_pos c]
      rfl
  rintro σ' H7 ⟨e, rfl⟩
  subst e
  walk_at "w"
  refine w_iteb (fun c3 => ?_) (fun c3 => ?_)
  · walk_at "w"
    exact kN (fun z => by have := z.1; unfold inn at this; rw [c3] at this; cases this)
  walk_at "w"
  refine w_iteb (fun c4 => ?_) (fun c4 => ?_)
  · walk_at "w"
    exact kN (fun z => by have := z.2.1; unfold inn at this; rw [c4] at this; cases this)
  walk_at "w"
  rw [eRl]
  by_cases cf : s.2.2.getD v.toNat default = true
  · simp only [if_pos cf] at kY kN ⊢
    refine w_iteN (fun c5 => ?_) (fun c5 => ?_)
    · walk_at "w"
      exact kN (fun z => c5 z.2.2.1)
    walk_at "w"
    refine w_iteN (fun c6 => ?_) (fun c6 => ?_)
    · walk_at "w"
      exact kN (fun z => c6 z.2.2.2)
    walk_at "w"
    exact kY ⟨c3, c4, c5, c6⟩
  · simp only [if_neg cf] at kY kN ⊢
    refine w_iteN (fun c5 => ?_) (fun c5 => ?_)
    · walk_at "w"
      exact kN (fun z => c5 z.2.2.1)
    walk_at "w"
    refine w_iteN (fun c6 => ?_) (fun c6 => ?_)
    · walk_at "w"
      exact kN (fun z => c6 z.2.2.2)
    walk_at "w"
    exact kY ⟨c3, c4, c5, c6⟩

def BkS (H : Hp) (ms : List Addr) (w l0 r0 f0 : Addr) (n : Int) (s : St3) : Prop := Bk H w l0 r0 f0 n s ∧ ∀ y ∈ [w, l0, r0, f0], y ∉ ms
theorem BkS.kp {ms ns : List Addr} {H H' : Hp} {w l0 r0 f0 : Addr} {n : Int} {s : St3} (h : BkS H ms w l0 r0 f0 n s) (k : Kp ns H H') (z : ∀ y ∈ ns, y ∈ ms) : BkS H' ms w l0 r0 f0 n s := ⟨Wd.kpS h.1 k (sep_sub h.2 z), h.2⟩
theorem BkS.kp0 {ms : List Addr} {H H' : Hp} {w l0 r0 f0 : Addr} {n : Int} {s : St3} (h : BkS H ms w l0 r0 f0 n s) (k : Kp [] H H') : BkS H' ms w l0 r0 f0 n s := ⟨h.1.kp0 k, h.2⟩
theorem wf_setR {n : Int} {s : St3} (W : WFs n s) {i : Nat} {u : Int} (h1 : (i : Int) < u) (h2 : u ≤ n + 1) : WFs n (s.1.set i u, s.2) := by
  have W : WF n s.1 s.2.1 s.2.2 := W
  refine ⟨W.n0, W.n1, by simpa using W.hR, W.hL, W.hF, fun j v hv => ?_, W.l0, W.l, W.f0, W.f1⟩
  by_cases c : i = j
  · subst c
    have hi : i < s.1.length := by
      have := (List.getElem?_eq_some_iff.mp hv).1
      simpa using this
    rw [List.getElem?_set_self hi] at hv
    cases hv
    exact ⟨h1, h2⟩
  · rw [List.getElem?_set_ne c] at hv
    exact W.r j v hv
theorem wf_setL {n : Int} {s : St3} (W : WFs n s) {i : Nat} {u : Int} (h0 : 1 ≤ i) (h1 : 0 ≤ u) (h2 : u < (i : Int)) : WFs n (s.1, s.2.1.set i u, s.2.2) := by
  have W : WF n s.1 s.2.1 s.2.2 := W
  refine ⟨W.n0, W.n1, W.hR, by simpa using W.hL, W.hF, W.r, ?_, fun j v hj hv => ?_, W.f0, W.f1⟩
  · rw [List.getElem?_set_ne (by omega)]
    exact W.l0
  · by_cases c : i = j
    · subst c
      have hi : i < s.2.1.length := by
        have := (List.getElem?_eq_some_iff.mp hv).1
        simpa using this
      rw [List.getElem?_set_self hi] at hv
      cases hv
      exact ⟨h1, h2⟩
    · rw [List.getElem?_set_ne c] at hv
      exact W.l j v hj hv
theorem wf_setF {n : Int} {s : St3} (W : WFs n s) {i : Nat} {c : Bool} (h1 : 1 ≤ i) (h2 : (i : Int) ≤ n) : WFs n (s.1, s.2.1, s.2.2.set i c) := by
  have W : WF n s.1 s.2.1 s.2.2 := W
  have n0 := W.n0
  refine ⟨W.n0, W.n1, W.hR, W.hL, by simpa using W.hF, W.r, W.l0, W.l, ?_, ?_⟩
  · show (s.2.2.set i c).getD 0 default = false
    rw [getD_set_ne (by omega)]
    exact W.f0
  · show (s.2.2.set i c).getD (n + 1).toNat default = false
    rw [getD_set_ne (by omega)]
    exact W.f1
theorem off3 {b q w l r f : Addr} (s : ∀ y ∈ [w, l, r, f], y ∉ [b, q]) {z : Addr} (hz : z ∈ [w, l, r, f]) : ∀ y ∈ [b, q], y ∉ [z] := fun y hy e => s z hz (by rw [← List.mem_singleton.mp e]; exact hy)
def sp__law_any (a : AD) : Sp := fun vs H Q _ => ∃ (b q : Addr) (n : Int), vs = [.ref b, .int n] ∧ Bx H b q ∧ 0 ≤ n ∧ n ≤ 60 ∧ ∀ (w l r f : Addr) (s : St3) (H' : Hp), H w = none → H l = none → H r = none → H f = none → Bk H' w l r f n s → WFs n s → Bx H' b q → Kp [b, q] H H' → Q (.ref w) H'
theorem sc__law_any : FnScope ["_law_purse_here", "_law_size", "_law_book", "_law_lefts", "_law_rights", "_law_flags", "_law_gap", "_law_room", "_law_node"] ["_law_purse_here", "_law_size"] (defScope s__law_any) := ⟨rfl, rfl, rfl, by decide +kernel, rfl, by decide +kernel, by decide +kernel⟩
theorem ok__law_any {P : Program} {w : World} {K : PySem.W.Frag} {mg : Str → Option Value} {base : Heap} {a : AD} (T : Txt P K mg a) (G__law_whole : FnA P w K mg base 2 a.f__law_whole ["_law_size"] (sp__law_whole a)) (G__law_take : FnA P w K mg base 2 a.f__law_take ["_law_purse_here", "_law_many"] (sp__law_take a)) : FnA P w K mg base 3 a.f__law_any ["_law_purse_here", "_law_size"] (sp__law_any a) := by
  obtain ⟨fd, F, b⟩ := T.F__law_any
  refine FnA.of F sc__law_any b (fun vs H Q E h => by first | (obtain ⟨rfl, _⟩ := h; rfl) | (obtain ⟨_, rfl, _⟩ := h; rfl) | (obtain ⟨_, _, rfl, _⟩ := h; rfl) | (obtain ⟨_, _, _, rfl, _⟩ := h; rfl) | (obtain ⟨_, _, _, _, rfl, _⟩ := h; rfl) | (obtain ⟨_, _, _, _, _, rfl, _⟩ := h; rfl) | (obtain ⟨_, _, _, _, _, _, rfl, _⟩ := h; rfl) | (obtain ⟨_, _, _, _, _, _, _, rfl, _⟩ := h; rfl) | (obtain ⟨_, _, _, _, _, _, _, _, rfl, _⟩ := h; rfl) | (obtain ⟨_, _, _, _, _, _, _, _, _, rfl, _⟩ := h; rfl) | (obtain ⟨_, _, _, _, _, _, _, _, _, _, rfl, _⟩ := h; rfl) | (obtain ⟨_, _, _, _, _, _, _, _, _, _, _, rfl, _⟩ := h; rfl) | (obtain ⟨_, _, _, _, _, _, _, _, _, _, _, _, rfl, _⟩ := h; rfl) | (obtain ⟨_, _, _, _, _, _, _, _, _, _, _, _, _, rfl, _⟩ := h; rfl) | (obtain ⟨_, _, _, _, _, _, _, _, _, _, _, _, _, _, rfl, _⟩ := h; rfl) | (obtain ⟨_, _, _, _, _, _, _, _, _, _, _, _, _, _, _, rfl, _⟩ := h; rfl) | (obtain ⟨_, _, _, _, _, _, _, _, _, _, _, _, _, _, _, _, rfl, _⟩ := h; rfl) | (obtain ⟨_, _, _, _, _, _, _, _, _, _, _, _, _, _, _, _, _, rfl, _⟩ := h; rfl) | (obtain ⟨_, _, _, _, _, _, _, _, _, _, _, _, _, _, _, _, _, _, rfl, _⟩ := h; rfl) | (obtain ⟨_, _, _, _, _, _, _, _, _, _, _, _, _, _, _, _, _, _, _, rfl, _⟩ := h; rfl) | (obtain ⟨_, _, _, _, _, _, _, _, _, _, _, _, _, _, _, _, _, _, _, _, rfl, _⟩ := h; rfl) | (obtain ⟨_, _, _, _, _, _, _, _, _, _, _, _, _, _, _, _, _, _, _, _, _, rfl, _⟩ := h; rfl) | (obtain ⟨_, _, _, _, _, _, _, _, _, _, _, _, _, _, _, _, _, _, _, _, _, _, rfl, _⟩ := h; rfl) | (obtain ⟨_, _, _, _, _, _, _, _, _, _, _, _, _, _, _, _, _, _, _, _, _, _, _, rfl, _⟩ := h; rfl)) (fun cdv A outer s H vs Q E hr tk pz h => ?_)
  have hu := hr.units
  have hrH := L2H.roomH_of hr
  obtain ⟨b, q, n, rfl, B, n0, n1, k⟩ := h
  refine ⟨_, (pss_cons (ps_set (i := 2) sc__law_any.nd rfl (Or.inl rfl) (pe_callA G__law_whole (Room.mono hr (by decide)) T.n__law_whole tk (pa_cons (pv 1) pa_nil)))
      (pss_cons (ps_set (i := 3) sc__law_any.nd rfl (Or.inl rfl) (pe_ix ix_seq (pv 2) pe_int (fun _ _ => rfl)))
      (pss_cons (ps_set (i := 4) sc__law_any.nd rfl (Or.inl rfl) (pe_ix ix_seq (pv 2) pe_int (fun _ _ => rfl)))
      (pss_cons (ps_set (i := 5) sc__law_any.nd rfl (Or.inl rfl) (pe_ix ix_seq (pv 2) pe_int (fun _ _ => rfl)))
      (pss_cons (ps_for pz rfl (pi_range1 rfl T.b_range (pa_cons (pe_op o_add (pv 1) pe_int) pa_nil)) (pg_name (i := 6) sc__law_any.nd rfl (Or.inl rfl))
      (pss_cons (ps_set (i := 7) sc__law_any.nd rfl (Or.inl rfl) (pe_op op_sub (pe_op o_add (pv 1) pe_int) (pv 6)))
      (pss_cons (ps_asg (pe_op o_add (pe_op o_add (pv 6) pe_int) (pe_callB (b_max2 rfl) rfl T.b_max (by decide +kernel) (pa_cons pe_int (pa_cons (pe_op op_sub (pe_callA G__law_take (Room.mono hr (by decide)) T.n__law_take tk (pa_cons (pv 0) (pa_cons (pe_op o_mul pe_int (pv 7)) pa_nil))) (pv 7)) pa_nil)))) (pg_sub (pv 4) (pv 6) set_list))
      (pss_cons (ps_set (i := 7) sc__law_any.nd rfl (Or.inl rfl) (pe_op o_add (pv 6) pe_int))
      (pss_one (ps_asg (pe_op op_sub (pv 6) (pe_callB (b_max2 rfl) rfl T.b_max (by decide +kernel) (pa_cons pe_int (pa_cons (pe_op op_sub (pe_callA G__law_take (Room.mono hr (by decide)) T.n__law_take tk (pa_cons (pv 0) (pa_cons (pe_op o_mul pe_int (pv 7)) pa_nil))) (pv 7)) pa_nil)))) (pg_sub (pv 3) (pe_op o_add (pv 6) pe_int) set_list)))))))
      (pss_cons (ps_for pz rfl (pi_range2 rfl T.b_range (pa_cons pe_int (pa_cons (pe_op o_add (pv 1) pe_int) pa_nil))) (pg_name (i := 8) sc__law_any.nd rfl (Or.inl rfl))
      (pss_one (ps_asg (pe_cmpR (o_eq hu) (pe_callA G__law_take (Room.mono hr (by decide)) T.n__law_take tk (pa_cons (pv 0) (pa_cons pe_int pa_nil))) pe_int (nomark _)) (pg_sub (pv 5) (pv 8) set_list))))
      (pss_one (ps_ret (pv 2))))))))), ?_⟩
  show (_ : Ends → L2.St → Hp → Prop) _ [some _, some _, none, none, none, none, none, none, none] _
  try dsimp only [L2H.cxH, cxOf]
  walk_at "w"
  refine ⟨n, rfl, n0, n1, fun w l r f H1 hw hl hr hf hB k1 => ?_⟩
  have sB : ∀ y ∈ [w, l, r, f], y ∉ [b, q] := sep_of (four hw hl hr hf) B.live
  have B1 := B.kp k1
  have kk : Kp [b, q] H H1 := k1.mono (by simp)
  obtain ⟨hw1, hl1, hr1, hf1, d1, d2, d3, d4, d5, d6⟩ := id hB
  walk_at "w"
  refine w_rng1 (n := n + 1) (by omega) (by omega) (fun i σ' H' => (∃ z6 z7 z8 : Option V, σ' = [some (.ref b), some (.int n), some (.ref w), some (.ref l), some (.ref r), some (.ref f), z6, z7, z8]) ∧ ∃ s, Bk H' w l r f n s ∧ WFs n s ∧ Bx H' b q ∧ Kp [b, q] H H') ⟨⟨_, _, _, rfl⟩, _, hB, wfs0 n0 n1, B1, kk⟩ ?_ ?_
  · clear hB B1 kk hw1 hl1 hr1 hf1 k1
    rintro i σ' H2 hi ⟨⟨z6, z7, z8, rfl⟩, s, hB, W, B2, k2⟩
    obtain ⟨hw2, hl2, hr2, hf2, _⟩ := id hB
    have hR := WF.hR W
    have hL := WF.hL W
    walk_at "w"
    refine ⟨b, q, 2 * (n + 1 - (i : Int)), rfl, B2, by omega, by omega, fun d H3 d0' d1' B3 k3 => ?_⟩
    have hB3 : Bk H3 w l r f n s := Wd.kpS hB k3 sB
    obtain ⟨hw3, hl3, hr3, hf3, _⟩ := id hB3
    have k03 := k2.trans k3
    have lR : (s.1 ++ [n + 2]).length = (n + 2).toNat := bk_len W
    clear hB hw2 hl2 hr2 hf2 B2 k2 k3
    walk_at "w"
    rw [Int.toNat_natCast, set_app (by omega)]
    have W4 := wf_setR W (i := i) (u := (i : Int) + 1 + max 0 (d - (n + 1 - (i : Int)))) (by omega) (by omega)
    generalize (i : Int) + 1 + max 0 (d - (n + 1 - (i : Int))) = u at W4 ⊢
    have hB4 : Bk (upd H3 r (.lst ((s.1.set i u ++ [n + 2]).map V.int))) w l r f n (s.1.set i u, s.2) := ⟨upd_get d2 hw3, upd_get d4 hl3, upd_same, upd_get (Ne.symm d6) hf3, d1, d2, d3, d4, d5, d6⟩
    have B4 : Bx (upd H3 r (.lst ((s.1.set i u ++ [n + 2]).map V.int))) b q := B3.kpm (Kp.refl.mut (ms := [r]) (by simp)) (off3 sB (by simp))
    have k4 : Kp [b, q] H (upd H3 r (.lst ((s.1.set i u ++ [n + 2]).map V.int))) := k03.own hr
    generalize upd H3 r (.lst ((s.1.set i u ++ [n + 2]).map V.int)) = H4 at hB4 B4 k4 ⊢
    generalize s.1.set i u = R4 at W4 hB4
    clear hB3 hw3 hl3 hr3 hf3 B3 k03 W
    obtain ⟨hw4, hl4, hr4, hf4, _⟩ := id hB4
    walk_at "w"
    refine ⟨b, q, 2 * ((i : Int) + 1), rfl, B4, by omega, by omega, fun e H5 e0 e1 B5 k5 => ?_⟩
    have hB5 : Bk H5 w l r f n (R4, s.2) := Wd.kpS hB4 k5 sB
    obtain ⟨hw5, hl5, hr5, hf5, _⟩ := id hB5
    have k05 := k4.trans k5
    clear hB4 hw4 hl4 hr4 hf4 B4 k4 k5
    walk_at "w"
    rw [show ((i : Int) + 1).toNat = i + 1 by omega]
    have W6 := wf_setL W4 (i := i + 1) (u := (i : Int) - max 0 (e - ((i : Int) + 1))) (by omega) (by omega) (by omega)
    generalize (i : Int) - max 0 (e - ((i : Int) + 1)) = u6 at W6 ⊢
    refine ⟨⟨_, _, _, rfl⟩, (R4, s.2.1.set (i + 1) u6, s.2.2), ⟨upd_get d1 hw5, upd_same, upd_get (Ne.symm d4) hr5, upd_get (Ne.symm d5) hf5, d1, d2, d3, d4, d5, d6⟩, W6, B5.kpm (Kp.refl.mut (ms := [l]) (by simp)) (off3 sB (by simp)), k05.own hl⟩
  clear hB B1 kk hw1 hl1 hr1 hf1 k1
  rintro σ' H2 ⟨⟨z6, z7, z8, rfl⟩, s, hB, W, B2, k2⟩
  walk_at "w"
  refine w_rng2 (lo := 1) (n := n + 1) (by omega) (by omega) (by omega) (by omega) (fun i σ' H' => (∃ z6 z7 z8 : Option V, σ' = [some (.ref b), some (.int n), some (.ref w), some (.ref l), some (.ref r), some (.ref f), z6, z7, z8]) ∧ ∃ s, Bk H' w l r f n s ∧ WFs n s ∧ Bx H' b q ∧ Kp [b, q] H H') ⟨⟨_, _, _, rfl⟩, _, hB, W, B2, k2⟩ ?_ ?_
  · clear hB W B2 k2 s
    rintro i σ' H3 hi ⟨⟨z6, z7, z8, rfl⟩, s, hB, W, B3, k3⟩
    have hF := WF.hF W
    walk_at "w"
    refine ⟨b, q, 2, rfl, B3, by omega, by omega, fun d H4 d0' d1' B4 k4 => ?_⟩
    have hB4 : Bk H4 w l r f n s := Wd.kpS hB k4 sB
    obtain ⟨hw4, hl4, hr4, hf4, _⟩ := id hB4
    have k04 := k3.trans k4
    walk_at "w"
    refine ⟨⟨_, _, _, rfl⟩, (s.1, s.2.1, s.2.2.set (1 + (i : Int)).toNat (decide (d = 1))), ⟨upd_get d3 hw4, upd_get d5 hl4, upd_get d6 hr4, upd_same, d1, d2, d3, d4, d5, d6⟩, wf_setF W (by omega) (by omega), B4.kpm (Kp.refl.mut (ms := [f]) (by simp)) (off3 sB (by simp)), k04.own hf⟩
  · clear hB W B2 k2 s
    rintro σ' H3 ⟨⟨z6, z7, z8, rfl⟩, s, hB, W, B3, k3⟩
    walk_at "w"
    exact k w l r f s H3 hw hl hr hf hB W B3 k3
/-! ### a run that a mode admits -/
theorem live3 {H : Hp} {b q g : Addr} {o : HO} (B : Bx H b q) (h : H g = some o) : ∀ y ∈ [b, q, g], ∃ o, H y = some o := fun y hy => by
  simp only [List.mem_cons, List.mem_nil_iff, or_false] at hy
  rcases hy with rfl | rfl | rfl
  · exact B.live _ (by simp)
  · exact B.live _ (by simp)
  · exact ⟨_, h⟩
theorem okTo_app {n : Int} {s : St3} {us : List Int} {o : Int} (h : okTo n s us us.length) (ho : OkAt n (runS s us) o) : okTo n s (us ++ [o]) (us ++ [o]).length := fun j u hj hu => by
  rw [List.length_append] at hj
  by_cases z : j < us.length
  · rw [List.getElem?_append_left z] at hu
    rw [List.take_append_of_le_length (by omega)]
    exact h j u z hu
  · have e : j = us.length := by simp at hj; omega
    subst e
    rw [List.getElem?_append_right (Nat.le_refl _), Nat.sub_self] at hu
    cases hu
    rw [List.take_append_of_le_length (Nat.le_refl _), List.take_length]
    exact ho
def sp__law_run (a : AD) : Sp := fun vs H Q _ => ∃ (b q w l r f : Addr) (n sh many : Int) (k : Nat) (s : St3), vs = [.ref b, .ref w, .int sh, .int many, .str (wordM k)] ∧ k ≤ 3 ∧ Bx H b q ∧ BkS H [b, q] w l r f n s ∧ WFs n s ∧ 0 ≤ sh ∧ sh + min n 6 ≤ n ∧ 0 ≤ many ∧ many ≤ 12 ∧
  ∀ (t g w' l' r' f' : Addr) (us : List Int) (H' : Hp), H g = none → H' t = some (.tup [.ref g, .ref w']) → H' g = some (.lst (us.map V.int)) → us.length ≤ 12 → okTo n s us us.length → BkS H' [b, q] w' l' r' f' n (runS s us) → Bx H' b q → Kp [b, q] H H' → Q (.ref t) H'
theorem sc__law_run : FnScope ["_law_purse_here", "_law_book", "_law_shift", "_law_many", "_law_word", "_law_row", "_law_wide", "_law_turn_here", "_law_node"] ["_law_purse_here", "_law_book", "_law_shift", "_law_many", "_law_word"] (defScope s__law_run) := ⟨rfl, rfl, rfl, by decide +kernel, rfl, by decide +kernel, by decide +kernel⟩
theorem ok__law_run {P : Program} {w : World} {K : PySem.W.Frag} {mg : Str → Option Value} {base : Heap} {a : AD} (T : Txt P K mg a) (G__law_take : FnA P w K mg base 2 a.f__law_take ["_law_purse_here", "_law_many"] (sp__law_take a)) (G__law_refusing : FnA P w K mg base 3 a.f__law_refusing ["_law_book", "_law_node", "_law_word"] (sp__law_refusing a)) (G__law_operation : FnA P w K mg base 2 a.f__law_operation ["_law_book", "_law_node"] (sp__law_operation a)) (G__law_moved : FnA P w K mg base 2 a.f__law_moved ["_law_book", "_law_node"] (sp__law_moved a)) : FnA P w K mg base 4 a.f__law_run ["_law_purse_here", "_law_book", "_law_shift", "_law_many", "_law_word"] (sp__law_run a) := by
  obtain ⟨fd, F, b⟩ := T.F__law_run
  refine FnA.of F sc__law_run b (fun vs H Q E h => by first | (obtain ⟨rfl, _⟩ := h; rfl) | (obtain ⟨_, rfl, _⟩ := h; rfl) | (obtain ⟨_, _, rfl, _⟩ := h; rfl) | (obtain ⟨_, _, _, rfl, _⟩ := h; rfl) | (obtain ⟨_, _, _, _, rfl, _⟩ := h; rfl) | (obtain ⟨_, _, _, _, _, rfl, _⟩ := h; rfl) | (obtain ⟨_, _, _, _, _, _, rfl, _⟩ := h; rfl) | (obtain ⟨_, _, _, _, _, _, _, rfl, _⟩ := h; rfl) | (obtain ⟨_, _, _, _, _, _, _, _, rfl, _⟩ := h; rfl) | (obtain ⟨_, _, _, _, _, _, _, _, _, rfl, _⟩ := h; rfl) | (obtain ⟨_, _, _, _, _, _, _, _, _, _, rfl, _⟩ := h; rfl) | (obtain ⟨_, _, _, _, _, _, _, _, _, _, _, rfl, _⟩ := h; rfl) | (obtain ⟨_, _, _, _, _, _, _, _, _, _, _, _, rfl, _⟩ := h; rfl) | (obtain ⟨_, _, _, _, _, _, _, _, _, _, _, _, _, rfl, _⟩ := h; rfl) | (obtain ⟨_, _, _, _, _, _, _, _, _, _, _, _, _, _, rfl, _⟩ := h; rfl) | (obtain ⟨_, _, _, _, _, _, _, _, _, _, _, _, _, _, _, rfl, _⟩ := h; rfl) | (obtain ⟨_, _, _, _, _, _, _, _, _, _, _, _, _, _, _, _, rfl, _⟩ := h; rfl) | (obtain ⟨_, _, _, _, _, _, _, _, _, _, _, _, _, _, _, _, _, rfl, _⟩ := h; rfl) | (obtain ⟨_, _, _, _, _, _, _, _, _, _, _, _, _, _, _, _, _, _, rfl, _⟩ := h; rfl) | (obtain ⟨_, _, _, _, _, _, _, _, _, _, _, _, _, _, _, _, _, _, _, rfl, _⟩ := h; rfl) | (obtain ⟨_, _, _, _, _, _, _, _, _, _, _, _, _, _, _, _, _, _, _, _, rfl, _⟩ := h; rfl) | (obtain ⟨_, _, _, _, _, _, _, _, _, _, _, _, _, _, _, _, _, _, _, _, _, rfl, _⟩ := h; rfl) | (obtain ⟨_, _, _, _, _, _, _, _, _, _, _, _, _, _, _, _, _, _, _, _, _, _, rfl, _⟩ := h; rfl) | (obtain ⟨_, _, _, _, _, _, _, _, _, _, _, _, _, _, _, _, _, _, _, _, _, _, _, rfl, _⟩ := h; rfl)) (fun cdv A outer s H vs Q E hr tk pz h => ?_)
  have hu := hr.units
  have hrH := L2H.roomH_of hr
  obtain ⟨b, q, w, l, r, f, n, sh, many, m, s, rfl, hm, B, hB, W, sh0, sh1, mn0, mn1, k⟩ := h
  refine ⟨_, (pss_cons (ps_set (i := 5) sc__law_run.nd rfl (Or.inl rfl) (pe_lst pa_nil))
      (pss_cons (ps_set (i := 6) sc__law_run.nd rfl (Or.inl rfl) (pe_callB (b_min2 rfl) rfl T.b_min (by decide +kernel) (pa_cons (pe_ix ix_seq (pv 1) pe_int (fun _ _ => rfl)) (pa_cons pe_int pa_nil))))
      (pss_cons (ps_for pz rfl (pi_range1 rfl T.b_range (pa_cons (pv 3) pa_nil)) (pg_name (i := 7) sc__law_run.nd rfl (Or.inl rfl))
      (pss_one (ps_if (pt_cmpA op_gt (pv 6) pe_int (nomark _)) (pss_cons (ps_set (i := 8) sc__law_run.nd rfl (Or.inl rfl) (pe_op o_add (pe_op o_add pe_int (pv 2)) (pe_callA G__law_take (Room.mono hr (by decide)) T.n__law_take tk (pa_cons (pv 0) (pa_cons (pv 6) pa_nil)))))
      (pss_one (ps_if (pt_cmpA (o_eq hu) (pe_callA G__law_refusing (Room.mono hr (by decide)) T.n__law_refusing tk (pa_cons (pv 1) (pa_cons (pv 8) (pa_cons (pv 4) pa_nil)))) pe_str (nomark _)) (pss_cons (ps_expr (pe_bm PySem.F.plainAttrs_list PySem.F.slot_list_append PySem.F.type_list_append mt_append (pv 5) (pa_cons (pe_callA G__law_operation (Room.mono hr (by decide)) T.n__law_operation tk (pa_cons (pv 1) (pa_cons (pv 8) pa_nil))) pa_nil)))
      (pss_one (ps_set (i := 1) sc__law_run.nd rfl (Or.inl rfl) (pe_callA G__law_moved (Room.mono hr (by decide)) T.n__law_moved tk (pa_cons (pv 1) (pa_cons (pv 8) pa_nil)))))) pss_nil))) pss_nil)))
      (pss_one (ps_ret (pe_tup (pa_cons (pv 5) (pa_cons (pv 1) pa_nil)))))))), ?_⟩
  show (_ : Ends → L2.St → Hp → Prop) _ [some _, some _, some _, some _, some _, none, none, none, none] _
  try dsimp only [L2H.cxH, cxOf]
  have n0 := WF.n0 W
  have n1 := WF.n1 W
  walk_at "w"
  intro g hg
  have kg := Kp.refl.new (ms := []) (o := .lst []) hg
  have hg1 : upd H g (.lst []) g = some (.lst ((([] : List Int)).map V.int)) := upd_same
  have gB : g ∉ [b, q] := B.off hg
  have lv := hB.1.live
  have hB1 : BkS (upd H g (.lst [])) [b, q, g] w l r f n s := ⟨hB.1.kp0 kg, fun y hy z => by
    rcases List.mem_cons.mp z with z | z
    · exact hB.2 y hy (by rw [z]; simp)
    · rcases List.mem_cons.mp z with z | z
      · exact hB.2 y hy (by rw [z]; simp)
      · obtain ⟨o, e⟩ := lv y (by simpa [or_comm, or_left_comm] using hy)
        rw [List.mem_singleton.mp z, hg] at e
        cases e⟩
  have B1 := B.kp kg
  have k1 : Kp [b, q] H (upd H g (.lst [])) := kg.mono (by simp)
  generalize upd H g (.lst []) = H1 at hg1 hB1 B1 k1 ⊢
  clear kg hB B lv
  have hw1 := hB1.1.1
  walk_at "w"
  refine w_rng1 (n := many) (by omega) (by omega) (fun i σ' H' => ∃ (w l r f : Addr) (us : List Int) (z7 z8 : Option V), σ' = [some (.ref b), some (.ref w), some (.int sh), some (.int many), some (.str (wordM m)), some (.ref g), some (.int (min n 6)), z7, z8] ∧ BkS H' [b, q, g] w l r f n (runS s us) ∧ okTo n s us us.length ∧ us.length ≤ i ∧ H' g = some (.lst (us.map V.int)) ∧ Bx H' b q ∧ Kp [b, q] H H') ⟨w, l, r, f, [], _, _, rfl, hB1, fun j o hj => by simp at hj, by simp, hg1, B1, k1⟩ ?_ ?_
  · clear hg1 hB1 B1 k1 hw1
    rintro i σ' H2 hi ⟨w, l, r, f, us, z7, z8, rfl, hB, hok, hul, hg2, B, k2⟩
    have Wi : WFs n (runS s us) := by
      have := runS_wf W us.length (Nat.le_refl _) hok
      rwa [List.take_length] at this
    walk_at "w"
    refine w_ite (fun c => ?_) (fun c => ?_)
    · walk_at "w"
      refine ⟨b, q, min n 6, rfl, B, by omega, by omega, fun d H3 d0 d1 B3 k3 => ?_⟩
      have hg3 := k3 g _ hg2 gB
      have hB3 := hB.kp k3 (by simp)
      have k03 := k2.trans k3
      have hOv := opF_ok (s := runS s us) (n := n) (v := 1 + sh + d) (by omega) (by omega)
      clear hB hg2 B k2 k3
      walk_at "w"
      refine ⟨w, n, 1 + sh + d, _, m, rfl, hm, hB3.1.x, Wi, by omega, by omega, fun H4 k4 => ?_⟩
      have hg4 := k4.at0 hg3
      have hB4 := hB3.kp0 k4
      have B4 := B3.kp k4
      have k04 := k03.trans0 k4
      clear hB3 hg3 B3 k03 k4
      walk_at "w"
      refine w_ite (fun c2 => ?_) (fun c2 => ?_)
      · walk_at "w"
        refine ⟨w, n, 1 + sh + d, _, rfl, hB4.1.x, Wi, by omega, by omega, ?_⟩
        walk_at "w"
        have kg : Kp [g] H4 (upd H4 g (.lst ((us ++ [opF (runS s us) (1 + sh + d)]).map V.int))) := Kp.refl.mut (by simp)
        have B5 := B4.kpm kg (nm_swap gB)
        have hB5 := hB4.kp kg (by simp)
        have hg5 := upd_same (H := H4) (a := g) (o := .lst ((us ++ [opF (runS s us) (1 + sh + d)]).map V.int))
        have k05 := k04.own (o := .lst ((us ++ [opF (runS s us) (1 + sh + d)]).map V.int)) hg
        generalize upd H4 g (.lst ((us ++ [opF (runS s us) (1 + sh + d)]).map V.int)) = H5 at B5 hB5 hg5 k05 ⊢
        refine ⟨w, n, 1 + sh + d, _, rfl, hB5.1.x, Wi, by omega, by omega, fun w2 l2 r2 f2 H6 hw2 hl2 hr2 hf2 hB6 k6 => ?_⟩
        walk_at "w"
        refine ⟨w2, l2, r2, f2, us ++ [opF (runS s us) (1 + sh + d)], _, _, rfl, ⟨?_, sep_of (four hw2 hl2 hr2 hf2) (live3 B5 hg5)⟩, okTo_app hok hOv.2.2, by rw [List.length_append]; simp; omega, k6.at0 hg5, B5.kp k6, k05.trans0 k6⟩
        rw [runS_snoc]
        exact hB6
      · walk_at "w"
        exact ⟨w, l, r, f, us, _, _, rfl, hB4, hok, by omega, hg4, B4, k04⟩
    · walk_at "w"
      exact ⟨w, l, r, f, us, _, _, rfl, hB, hok, by omega, hg2, B, k2⟩
  · rintro σ' H2 ⟨w, l, r, f, us, z7, z8, rfl, hB, hok, hul, hg2, B, k2⟩
    walk_at "w"
    intro t ht
    have kt := Kp.refl.new (ms := []) (o := .tup [V.ref g, .ref w]) ht
    exact k t g w l r f us _ hg upd_same (kt.at0 hg2) (by omega) hok ⟨hB.1.kp0 kt, fun y hy z => hB.2 y hy (by rcases List.mem_cons.mp z with z | z; rw [z]; simp; rcases List.mem_cons.mp z with z | z; rw [z]; simp; cases z)⟩ (B.kp kt) (k2.trans0 kt)
/-! ### the modes' objects -/
def Knd (a : AD) (H : Hp) (p j0 j1 j2 j3 : Addr) : Prop := H p = some (.lst [.ref j0, .ref j1, .ref j2, .ref j3]) ∧ (∃ dx, H j0 = some (.ins a.FreeMode dx [])) ∧ (∃ dx, H j1 = some (.ins a.SavingMode dx [])) ∧ (∃ dx, H j2 = some (.ins a.GuardedMode dx [])) ∧ (∃ dx, H j3 = some (.ins a.CheckedMode dx []))
theorem Knd.kp0 {a : AD} {H H' : Hp} {p j0 j1 j2 j3 : Addr} (h : Knd a H p j0 j1 j2 j3) (k : Kp [] H H') : Knd a H' p j0 j1 j2 j3 := by
  obtain ⟨h1, ⟨d0, h2⟩, ⟨d1, h3⟩, ⟨d2, h4⟩, d3, h5⟩ := h
  exact ⟨k.at0 h1, ⟨d0, k.at0 h2⟩, ⟨d1, k.at0 h3⟩, ⟨d2, k.at0 h4⟩, d3, k.at0 h5⟩
theorem ins_m {H : Hp} {j C dx : Addr} {fs : List (Str × V)} {ms : List Addr} (h : H j = some (.ins C dx fs)) (hm : ∀ y ∈ ms, ∃ vs, H y = some (.lst vs)) : j ∉ ms := fun z => by
  obtain ⟨vs, e⟩ := hm j z
  rw [h] at e; cases e
theorem Knd.kp {a : AD} {H H' : Hp} {p j0 j1 j2 j3 : Addr} {ms : List Addr} (h : Knd a H p j0 j1 j2 j3) (k : Kp ms H H') (hp : p ∉ ms) (hm : ∀ y ∈ ms, ∃ vs, H y = some (.lst vs)) : Knd a H' p j0 j1 j2 j3 := by
  obtain ⟨h1, ⟨d0, h2⟩, ⟨d1, h3⟩, ⟨d2, h4⟩, d3, h5⟩ := h
  exact ⟨k.at h1 hp, ⟨d0, k.at h2 (ins_m h2 hm)⟩, ⟨d1, k.at h3 (ins_m h3 hm)⟩, ⟨d2, k.at h4 (ins_m h4 hm)⟩, d3, k.at h5 (ins_m h5 hm)⟩
theorem w_neSame {K : PySem.W.Frag} {H : Hp} {Q : VK} {p q : Addr} {vs : List V} (hp : H p = some (.lst vs)) (hq : H q = some (.lst vs)) (ok : vs.all okV = true) (k : Q (.bl false) H) : aNe K (.ref p) (.ref q) H Q :=
  have h1 : DV K H 10 (.ref p) (.list (vs.map datV)) := DV.lst hp (DvAll.row ok)
  have h2 : DV K H 10 (.ref q) (.list (vs.map datV)) := DV.lst hq (DvAll.row ok)
  .inr ⟨_, _, h1.1, h2.1, h1.shaped (by decide), h2.shaped (by decide), by rw [PyData.eqv, eqRow]; exact k⟩
theorem Bx.lst {H : Hp} {b q : Addr} (B : Bx H b q) : ∀ y ∈ [b, q], ∃ vs, H y = some (.lst vs) := by
  obtain ⟨ns, s1, s2, c, h1, h2, h3⟩ := B
  intro y hy
  simp only [List.mem_cons, List.mem_nil_iff, or_false] at hy
  rcases hy with rfl | rfl
  · exact ⟨_, h1⟩
  · exact ⟨_, h2⟩
def sp__law_words (a : AD) : Sp := fun vs H Q _ => vs = [] ∧ ∀ g H', H g = none → H' g = some (.lst ((["free", "saving", "guarded", "checked"] : List Str).map V.str)) → Kp [] H H' → Q (.ref g) H'
theorem sc__law_words : FnScope [] [] (defScope s__law_words) := ⟨rfl, rfl, rfl, by decide +kernel, rfl, by decide +kernel, by decide +kernel⟩
theorem ok__law_words {P : Program} {w : World} {K : PySem.W.Frag} {mg : Str → Option Value} {base : Heap} {a : AD} (T : Txt P K mg a) : FnA P w K mg base 2 a.f__law_words [] (sp__law_words a) := by
  obtain ⟨fd, F, b⟩ := T.F__law_words
  refine FnA.of F sc__law_words b (fun vs H Q E h => by first | (obtain ⟨rfl, _⟩ := h; rfl) | (obtain ⟨_, rfl, _⟩ := h; rfl) | (obtain ⟨_, _, rfl, _⟩ := h; rfl) | (obtain ⟨_, _, _, rfl, _⟩ := h; rfl) | (obtain ⟨_, _, _, _, rfl, _⟩ := h; rfl) | (obtain ⟨_, _, _, _, _, rfl, _⟩ := h; rfl) | (obtain ⟨_, _, _, _, _, _, rfl, _⟩ := h; rfl) | (obtain ⟨_, _, _, _, _, _, _, rfl, _⟩ := h; rfl) | (obtain ⟨_, _, _, _, _, _, _, _, rfl, _⟩ := h; rfl) | (obtain ⟨_, _, _, _, _, _, _, _, _, rfl, _⟩ := h; rfl) | (obtain ⟨_, _, _, _, _, _, _, _, _, _, rfl, _⟩ := h; rfl) | (obtain ⟨_, _, _, _, _, _, _, _, _, _, _, rfl, _⟩ := h; rfl) | (obtain ⟨_, _, _, _, _, _, _, _, _, _, _, _, rfl, _⟩ := h; rfl) | (obtain ⟨_, _, _, _, _, _, _, _, _, _, _, _, _, rfl, _⟩ := h; rfl) | (obtain ⟨_, _, _, _, _, _, _, _, _, _, _, _, _, _, rfl, _⟩ := h; rfl) | (obtain ⟨_, _, _, _, _, _, _, _, _, _, _, _, _, _, _, rfl, _⟩ := h; rfl) | (obtain ⟨_, _, _, _, _, _, _, _, _, _, _, _, _, _, _, _, rfl, _⟩ := h; rfl) | (obtain ⟨_, _, _, _, _, _, _, _, _, _, _, _, _, _, _, _, _, rfl, _⟩ := h; rfl) | (obtain ⟨_, _, _, _, _, _, _, _, _, _, _, _, _, _, _, _, _, _, rfl, _⟩ := h; rfl) | (obtain ⟨_, _, _, _, _, _, _, _, _, _, _, _, _, _, _, _, _, _, _, rfl, _⟩ := h; rfl) | (obtain ⟨_, _, _, _, _, _, _, _, _, _, _, _, _, _, _, _, _, _, _, _, rfl, _⟩ := h; rfl) | (obtain ⟨_, _, _, _, _, _, _, _, _, _, _, _, _, _, _, _, _, _, _, _, _, rfl, _⟩ := h; rfl) | (obtain ⟨_, _, _, _, _, _, _, _, _, _, _, _, _, _, _, _, _, _, _, _, _, _, rfl, _⟩ := h; rfl) | (obtain ⟨_, _, _, _, _, _, _, _, _, _, _, _, _, _, _, _, _, _, _, _, _, _, _, rfl, _⟩ := h; rfl)) (fun cdv A outer s H vs Q E hr tk pz h => ?_)
  have hu := hr.units
  have hrH := L2H.roomH_of hr
  obtain ⟨rfl, k⟩ := h
  refine ⟨_, (pss_one (ps_ret (pe_lst (pa_cons pe_str (pa_cons pe_str (pa_cons pe_str (pa_cons pe_str pa_nil))))))), ?_⟩
  show (_ : Ends → L2.St → Hp → Prop) _ [] _
  try dsimp only [L2H.cxH, cxOf]
  walk_at "w"
  intro g hg
  exact k g _ hg upd_same (Kp.refl.new hg)
def sp__law_kinds (a : AD) : Sp := fun vs H Q _ => ∃ (b q : Addr), vs = [.ref b] ∧ Bx H b q ∧ ∀ (p j0 j1 j2 j3 : Addr) (H' : Hp), H p = none → Knd a H' p j0 j1 j2 j3 → Bx H' b q → Kp [b, q] H H' → Q (.ref p) H'
theorem sc__law_kinds : FnScope ["_law_purse_here", "_law_kinds_here", "_law_names", "_law_word", "_law_k"] ["_law_purse_here"] (defScope s__law_kinds) := ⟨rfl, rfl, rfl, by decide +kernel, rfl, by decide +kernel, by decide +kernel⟩
theorem ok__law_kinds {P : Program} {w : World} {K : PySem.W.Frag} {mg : Str → Option Value} {base : Heap} {a : AD} (T : Txt P K mg a) (G__law_words : FnA P w K mg base 2 a.f__law_words [] (sp__law_words a)) (G__law_take : FnA P w K mg base 2 a.f__law_take ["_law_purse_here", "_law_many"] (sp__law_take a)) (G_mode_named : FnA P w K mg base 3 a.f_mode_named ["mode"] (sp_mode_named a)) : FnA P w K mg base 4 a.f__law_kinds ["_law_purse_here"] (sp__law_kinds a) := by
  obtain ⟨fd, F, b⟩ := T.F__law_kinds
  refine FnA.of F sc__law_kinds b (fun vs H Q E h => by first | (obtain ⟨rfl, _⟩ := h; rfl) | (obtain ⟨_, rfl, _⟩ := h; rfl) | (obtain ⟨_, _, rfl, _⟩ := h; rfl) | (obtain ⟨_, _, _, rfl, _⟩ := h; rfl) | (obtain ⟨_, _, _, _, rfl, _⟩ := h; rfl) | (obtain ⟨_, _, _, _, _, rfl, _⟩ := h; rfl) | (obtain ⟨_, _, _, _, _, _, rfl, _⟩ := h; rfl) | (obtain ⟨_, _, _, _, _, _, _, rfl, _⟩ := h; rfl) | (obtain ⟨_, _, _, _, _, _, _, _, rfl, _⟩ := h; rfl) | (obtain ⟨_, _, _, _, _, _, _, _, _, rfl, _⟩ := h; rfl) | (obtain ⟨_, _, _, _, _, _, _, _, _, _, rfl, _⟩ := h; rfl) | (obtain ⟨_, _, _, _, _, _, _, _, _, _, _, rfl, _⟩ := h; rfl) | (obtain ⟨_, _, _, _, _, _, _, _, _, _, _, _, rfl, _⟩ := h; rfl) | (obtain ⟨_, _, _, _, _, _, _, _, _, _, _, _, _, rfl, _⟩ := h; rfl) | (obtain ⟨_, _, _, _, _, _, _, _, _, _, _, _, _, _, rfl, _⟩ := h; rfl) | (obtain ⟨_, _, _, _, _, _, _, _, _, _, _, _, _, _, _, rfl, _⟩ := h; rfl) | (obtain ⟨_, _, _, _, _, _, _, _, _, _, _, _, _, _, _, _, rfl, _⟩ := h; rfl) | (obtain ⟨_, _, _, _, _, _, _, _, _, _, _, _, _, _, _, _, _, rfl, _⟩ := h; rfl) | (obtain ⟨_, _, _, _, _, _, _, _, _, _, _, _, _, _, _, _, _, _, rfl, _⟩ := h; rfl) | (obtain ⟨_, _, _, _, _, _, _, _, _, _, _, _, _, _, _, _, _, _, _, rfl, _⟩ := h; rfl) | (obtain ⟨_, _, _, _, _, _, _, _, _, _, _, _, _, _, _, _, _, _, _, _, rfl, _⟩ := h; rfl) | (obtain ⟨_, _, _, _, _, _, _, _, _, _, _, _, _, _, _, _, _, _, _, _, _, rfl, _⟩ := h; rfl) | (obtain ⟨_, _, _, _, _, _, _, _, _, _, _, _, _, _, _, _, _, _, _, _, _, _, rfl, _⟩ := h; rfl) | (obtain ⟨_, _, _, _, _, _, _, _, _, _, _, _, _, _, _, _, _, _, _, _, _, _, _, rfl, _⟩ := h; rfl)) (fun cdv A outer s H vs Q E hr tk pz h => ?_)
  have hu := hr.units
  have hrH := L2H.roomH_of hr
  obtain ⟨b, q, rfl, B, k⟩ := h
  refine ⟨_, (pss_cons (ps_set (i := 1) sc__law_kinds.nd rfl (Or.inl rfl) (pe_lst (pa_cons (pe_make0c T.m0_FreeMode T.c_FreeMode) (pa_cons (pe_make0c T.m0_SavingMode T.c_SavingMode) (pa_cons (pe_make0c T.m0_GuardedMode T.c_GuardedMode) (pa_cons (pe_make0c T.m0_CheckedMode T.c_CheckedMode) pa_nil))))))
      (pss_cons (ps_set (i := 2) sc__law_kinds.nd rfl (Or.inl rfl) (pe_lst (pa_cons (ClX.pe_cval (pe_glob (v := .ref a.FreeMode) rfl T.c_FreeMode rfl)) (pa_cons (ClX.pe_cval (pe_glob (v := .ref a.SavingMode) rfl T.c_SavingMode rfl)) (pa_cons (ClX.pe_cval (pe_glob (v := .ref a.GuardedMode) rfl T.c_GuardedMode rfl)) (pa_cons (ClX.pe_cval (pe_glob (v := .ref a.CheckedMode) rfl T.c_CheckedMode rfl)) pa_nil))))))
      (pss_cons (ps_if (pt_cmpA (o_ne hu) (pv 2) (pe_callA0 G__law_words (Room.mono hr (by decide)) T.n__law_words tk) (nomark _)) (pss_one (ps_ret (pe_lst pa_nil))) pss_nil)
      (pss_cut (ps_if (pt_cmpA (o_eq hu) (pe_callA G__law_take (Room.mono hr (by decide)) T.n__law_take tk (pa_cons (pv 0) (pa_cons pe_int pa_nil))) pe_int (nomark _)) (pss_one (ps_setLc (i := 1) (own := [("_law_word", 3)]) (g := (gName 3)) (tt := tYes) rfl sc__law_kinds.nd rfl rfl (sw_true rfl rfl rfl (by decide +kernel)) (pi_list (pe_callA0 G__law_words (Room.mono hr (by decide)) T.n__law_words tk)) (blkOk_by (own := [("_law_word", 3)]) (N := ["_law_purse_here", "_law_kinds_here", "_law_names", "_law_word", "_law_k"]) (sc := defScope s__law_kinds) (by decide +kernel)) (fun _ _ _ _ _ => (pg_name (i := 3) sc__law_kinds.nd rfl (Or.inl rfl))) (fun _ _ _ _ _ => pts_nil) (fun _ _ _ _ _ => (pe_callA G_mode_named (Room.mono hr (by decide)) T.n_mode_named takes0 (pa_cons (pv 3) pa_nil))))) pss_nil)
      (pss_cons (ps_for pz rfl (pi_range1 rfl T.b_range (pa_cons pe_int pa_nil)) (pg_name (i := 4) sc__law_kinds.nd rfl (Or.inl rfl))
      (pss_cons (ps_if (PW.pt (pw_or (pt_cmpA (o_ne hu) (pe_con (pe_ix ix_seq (pv 1) (pv 4) (fun _ _ => rfl)) rfl) (pe_ix ix_seq (pv 2) (pv 4) (fun _ _ => rfl)) (nomark _)) (pw_or1 (pt_not (pt_tru (pe_callB call_isi rfl T.b_isinstance (by decide +kernel) (pa_cons (pe_ix ix_seq (pv 1) (pv 4) (fun _ _ => rfl)) (pa_cons (pe_glob (v := .ref a.FreeMode) rfl T.c_FreeMode rfl) pa_nil)))))))) (pss_one (ps_ret (pe_lst pa_nil))) pss_nil)
      (pss_cons (ps_if (PW.pt (pw_or (pt_cmpA (o_ne hu) (pe_callB call_isi rfl T.b_isinstance (by decide +kernel) (pa_cons (pe_ix ix_seq (pv 1) (pv 4) (fun _ _ => rfl)) (pa_cons (pe_glob (v := .ref a.SavingMode) rfl T.c_SavingMode rfl) pa_nil))) (pe_cmpR op_gt (pv 4) pe_int (nomark _)) (nomark _)) (pw_or1 (pt_cmpA (o_ne hu) (pe_callB call_isi rfl T.b_isinstance (by decide +kernel) (pa_cons (pe_ix ix_seq (pv 1) (pv 4) (fun _ _ => rfl)) (pa_cons (pe_glob (v := .ref a.GuardedMode) rfl T.c_GuardedMode rfl) pa_nil))) (pe_cmpR op_gt (pv 4) pe_int (nomark _)) (nomark _))))) (pss_one (ps_ret (pe_lst pa_nil))) pss_nil)
      (pss_one (ps_if (pt_cmpA (o_ne hu) (pe_callB call_isi rfl T.b_isinstance (by decide +kernel) (pa_cons (pe_ix ix_seq (pv 1) (pv 4) (fun _ _ => rfl)) (pa_cons (pe_glob (v := .ref a.CheckedMode) rfl T.c_CheckedMode rfl) pa_nil))) (pe_cmpR op_gt (pv 4) pe_int (nomark _)) (nomark _)) (pss_one (ps_ret (pe_lst pa_nil))) pss_nil)))))
      (pss_one (ps_ret (pv 1)))))))), ?_⟩
  show (_ : Ends → L2.St → Hp → Prop) _ [some _, none, none, none, none] _
  try dsimp only [L2H.cxH, cxOf]
  walk_at "w"
  intro x0 y0 hx0 hy0 hn0
  have k0 : Kp [] H (upd (upd H y0 (.own x0)) x0 (.ins a.FreeMode y0 [])) := (Kp.refl.new hy0).own hx0
  have g0 : upd (upd H y0 (.own x0)) x0 (.ins a.FreeMode y0 []) x0 = some (.ins a.FreeMode y0 []) := upd_same
  generalize upd (upd H y0 (.own x0)) x0 (.ins a.FreeMode y0 []) = H0 at k0 g0 ⊢
  walk_at "w"
  intro x1 y1 hx1 hy1 hn1
  have k1 : Kp [] H0 (upd (upd H0 y1 (.own x1)) x1 (.ins a.SavingMode y1 [])) := (Kp.refl.new hy1).own hx1
  have g1 : upd (upd H0 y1 (.own x1)) x1 (.ins a.SavingMode y1 []) x1 = some (.ins a.SavingMode y1 []) := upd_same
  generalize upd (upd H0 y1 (.own x1)) x1 (.ins a.SavingMode y1 []) = H1 at k1 g1 ⊢
  walk_at "w"
  intro x2 y2 hx2 hy2 hn2
  have k2 : Kp [] H1 (upd (upd H1 y2 (.own x2)) x2 (.ins a.GuardedMode y2 [])) := (Kp.refl.new hy2).own hx2
  have g2 : upd (upd H1 y2 (.own x2)) x2 (.ins a.GuardedMode y2 []) x2 = some (.ins a.GuardedMode y2 []) := upd_same
  generalize upd (upd H1 y2 (.own x2)) x2 (.ins a.GuardedMode y2 []) = H2 at k2 g2 ⊢
  walk_at "w"
  intro x3 y3 hx3 hy3 hn3
  have k3 : Kp [] H2 (upd (upd H2 y3 (.own x3)) x3 (.ins a.CheckedMode y3 [])) := (Kp.refl.new hy3).own hx3
  have g3 : upd (upd H2 y3 (.own x3)) x3 (.ins a.CheckedMode y3 []) x3 = some (.ins a.CheckedMode y3 []) := upd_same
  generalize upd (upd H2 y3 (.own x3)) x3 (.ins a.CheckedMode y3 []) = H3 at k3 g3 ⊢
  walk_at "w"
  intro p hp
  have k4 : Kp [] H3 (upd H3 p (.lst [.ref x0, .ref x1, .ref x2, .ref x3])) := Kp.refl.new hp
  have hN : Knd a (upd H3 p (.lst [.ref x0, .ref x1, .ref x2, .ref x3])) p x0 x1 x2 x3 := ⟨upd_same, ⟨_, k4.at0 (k3.at0 (k2.at0 (k1.at0 g0)))⟩, ⟨_, k4.at0 (k3.at0 (k2.at0 g1))⟩, ⟨_, k4.at0 (k3.at0 g2)⟩, _, k4.at0 g3⟩
  have kk := (((k0.trans k1).trans k2).trans k3)
  have hpn := kk.free hp
  have pB : p ∉ [b, q] := B.off hpn
  have kk := kk.trans k4
  generalize upd H3 p (.lst [.ref x0, .ref x1, .ref x2, .ref x3]) = H4 at hN kk ⊢
  clear k0 k1 k2 k3 k4 g0 g1 g2 g3 hp hx0 hx1 hx2 hx3 hy0 hy1 hy2 hy3 hn0 hn1 hn2 hn3
  have B4 := B.kp kk
  walk_at "w"
  intro nm hnm
  have kn := Kp.refl.new (ms := []) (o := .lst ((["free", "saving", "guarded", "checked"] : List Str).map V.str)) hnm
  have e : HO.lst [V.str "free", .str "saving", .str "guarded", .str "checked"] = .lst ((["free", "saving", "guarded", "checked"] : List Str).map V.str) := rfl
  rw [e]
  have hnm5 : upd H4 nm (.lst ((["free", "saving", "guarded", "checked"] : List Str).map V.str)) nm = some (.lst ((["free", "saving", "guarded", "checked"] : List Str).map V.str)) := upd_same
  have hN5 := hN.kp0 kn
  have B5 := B4.kp kn
  have k5 := kk.trans kn
  have nB : nm ∉ [b, q] := B4.off hnm
  generalize upd H4 nm (.lst ((["free", "saving", "guarded", "checked"] : List Str).map V.str)) = H5 at hnm5 hN5 B5 k5 ⊢
  clear kn e hnm hN B4 kk
  walk_at "w"
  refine ⟨rfl, fun g H6 hg hg6 k6 => ?_⟩
  have hnm6 := k6.at0 hnm5
  have hN6 := hN5.kp0 k6
  have B6 := B5.kp k6
  have k06 := k5.trans k6
  have gB : g ∉ [b, q] := B5.off hg
  have ok4 : ((["free", "saving", "guarded", "checked"] : List Str).map V.str).all okV = true := by decide +kernel
  clear hnm5 hN5 B5 k5 k6 hg
  refine w_neSame hnm6 hg6 ok4 ?_
  walk_at "w"
  refine s_cut (fun σ' H' => ∃ (p j0 j1 j2 j3 : Addr) (z4 : Option V), σ' = [some (.ref b), some (.ref p), some (.ref nm), z4, none] ∧ H p = none ∧ p ∉ [b, q] ∧ Knd a H' p j0 j1 j2 j3 ∧ H' nm = some (.lst ((["free", "saving", "guarded", "checked"] : List Str).map V.str)) ∧ Bx H' b q ∧ Kp [b, q] H H') ?_ ?_
  · walk_at "w"
    refine ⟨b, q, 2, rfl, B6, by omega, by omega, fun d H7 d0 d1 B7 k7 => ?_⟩
    have hN7 := hN6.kp k7 pB B6.lst
    have hnm7 := k7 nm _ hnm6 nB
    have k07 := (k06.mono (ns := [b, q]) (by simp)).trans k7
    walk_at "w"
    refine w_ite (fun c => ?_) (fun c => ?_)
    · walk_at "w"
      refine ⟨rfl, fun g2 H8 hg2 hg28 k8 => ?_⟩
      have hnm8 := k8.at0 hnm7
      have B8 := B7.kp k8
      have k08 := k07.trans0 k8
      walk_at "w"
      refine w_lcMG (us := (["free", "saving", "guarded", "checked"] : List Str)) (f := V.str) (fun D i acc H' => ∃ js : List Addr, acc = js.map V.ref ∧ js.length = i ∧ ∀ k : Nat, k < i → ∃ dx, H' (js.getD k default) = some (.ins (clsM a k) dx [])) hg28 (fun D hD => ⟨[], rfl, rfl, fun k hk => by omega⟩) ?_ ?_
      · rintro D i u acc H' hD hu hal hk hA ⟨js, rfl, hjl, hjs⟩
        have hi4 : i < 4 := (List.getElem?_eq_some_iff.mp hu).1
        have eu : u = wordM i := by
          have : i = 0 ∨ i = 1 ∨ i = 2 ∨ i = 3 := by omega
          rcases this with rfl | rfl | rfl | rfl <;> (cases hu; rfl)
        walk_at "w"
        refine ⟨rfl, ?_⟩
        walk_at "w"
        refine ⟨u, rfl, fun z => absurd eu (z i (by omega)), fun m hm e j dx H2 hj k2 hj2 => ?_⟩
        obtain rfl : m = i := word_inj hm (by omega) (e.symm.trans eu)
        have hA2 := k2.at0 hA
        have hjA : D ≠ j := ne_of_none hA hj
        refine w_keepG (hk.trans k2) hA2 (by simpa using hal) (by rw [sizeLine_eq]; omega) hD ⟨js ++ [j], by simp, by simp [hjl], fun k hk2 => ?_⟩
        by_cases z : k < m
        · obtain ⟨dx2, e2⟩ := hjs k z
          have e3 : (js ++ [j]).getD k default = js.getD k default := by
            rw [List.getD_eq_getElem?_getD, List.getElem?_append_left (by omega), ← List.getD_eq_getElem?_getD]
          rw [e3]
          have e4 := k2.at0 e2
          exact ⟨dx2, upd_get (ne_of e4 hA2 (by intro q; cases q)) e4⟩
        · obtain rfl : k = m := by omega
          have e3 : (js ++ [j]).getD k default = j := by
            rw [List.getD_eq_getElem?_getD, List.getElem?_append_right (by omega), show k - js.length = 0 by omega]
            rfl
          rw [e3]
          exact ⟨dx, upd_get (Ne.symm hjA) hj2⟩
      · rintro D acc H' hD hal hk hA ⟨js, rfl, hjl, hjs⟩
        obtain ⟨j0, j1, j2, j3, rfl⟩ : ∃ j0 j1 j2 j3, js = [j0, j1, j2, j3] := by
          match js, hjl with
          | [j0, j1, j2, j3], _ => exact ⟨_, _, _, _, rfl⟩
        have hDn : H D = none := k08.freeB B8 hD
        walk_at "w"
        exact ⟨D, j0, j1, j2, j3, _, rfl, hDn, B.off hDn, ⟨hA, hjs 0 (by decide), hjs 1 (by decide), hjs 2 (by decide), hjs 3 (by decide)⟩, hk.at0 hnm8, B8.kp hk, k08.trans0 hk⟩
    · walk_at "w"
      exact ⟨p, _, _, _, _, _, rfl, hpn, pB, hN7, hnm7, B7, k07⟩
  clear hN6 hnm6 hg6 B6 k06 hpn pB
  rintro σ' H7 ⟨p, j0, j1, j2, j3, z4, rfl, hpn, pB, hN, hnm, B7, k7⟩
  have sl : (["free", "saving", "guarded", "checked"] : List Str).length = 4 := rfl
  walk_at "w"
  refine w_rng1 (n := 4) (by omega) (by omega) (fun i σ' H' => (∃ z3 z4 : Option V, σ' = [some (.ref b), some (.ref p), some (.ref nm), z3, z4]) ∧ H' = H7) ⟨⟨_, _, rfl⟩, rfl⟩ ?_ ?_
  · rintro i σ' H8 hi ⟨⟨z3, z4, rfl⟩, e⟩
    subst e
    obtain ⟨hp, ⟨e0, h0⟩, ⟨e1, h1⟩, ⟨e2, h2⟩, e3, h3⟩ := hN
    have : i = 0 ∨ i = 1 ∨ i = 2 ∨ i = 3 := by omega
    rcases this with rfl | rfl | rfl | rfl
    all_goals
      walk_at "w"
      exact ⟨⟨_, _, rfl⟩, rfl⟩
  · rintro σ' H8 ⟨⟨z3, z4, rfl⟩, e⟩
    subst e
    walk_at "w"
    exact k p j0 j1 j2 j3 _ hpn hN B7 k7
def sp__law_asked (a : AD) : Sp := fun vs H Q _ => ∃ (w x l r f p j0 j1 j2 j3 g : Addr) (n : Int) (s : St3) (us : List Int), vs = [.ref w, .ref x, .ref p, .ref g] ∧ Bkx H w n s ∧ LkS a H x l r f n s ∧ WFs n s ∧ Knd a H p j0 j1 j2 j3 ∧ H g = some (.lst (us.map V.int)) ∧ us.length ≤ 60 ∧ (∀ u ∈ us, 1 ≤ u ∧ u ≤ n) ∧ ∀ H', Kp [] H H' → Q (.bl true) H'
theorem sc__law_asked : FnScope ["_law_book", "_law_held", "_law_kinds_here", "_law_nodes", "_law_words_here", "_law_node", "_law_operation_here", "_law_k", "_law_due", "_law_told"] ["_law_book", "_law_held", "_law_kinds_here", "_law_nodes"] (defScope s__law_asked) := ⟨rfl, rfl, rfl, by decide +kernel, rfl, by decide +kernel, by decide +kernel⟩
theorem ok__law_asked {P : Program} {w : World} {K : PySem.W.Frag} {mg : Str → Option Value} {base : Heap} {a : AD} (T : Txt P K mg a) (G__law_words : FnA P w K mg base 2 a.f__law_words [] (sp__law_words a)) (G__law_operation : FnA P w K mg base 2 a.f__law_operation ["_law_book", "_law_node"] (sp__law_operation a)) (G__law_refusing : FnA P w K mg base 3 a.f__law_refusing ["_law_book", "_law_node", "_law_word"] (sp__law_refusing a)) (G_FreeMode_refusal : FnA P w K mg base 4 a.f_FreeMode_refusal ["self", "links", "operation"] (sp_FreeMode_refusal a)) (G_SavingMode_refusal : FnA P w K mg base 7 a.f_SavingMode_refusal ["self", "links", "operation"] (sp_SavingMode_refusal a)) (G_GuardedMode_refusal : FnA P w K mg base 8 a.f_GuardedMode_refusal ["self", "links", "operation"] (sp_GuardedMode_refusal a)) (G_CheckedMode_refusal : FnA P w K mg base 9 a.f_CheckedMode_refusal ["self", "links", "operation"] (sp_CheckedMode_refusal a)) (G__law_truth : FnA P w K mg base 2 a.f__law_truth ["_law_told", "_law_due"] (sp__law_truth a)) (G_admits : FnK P w K mg base 10 a.f_admits ["links", "operation", "mode"] (sp_admits a) 2 ["mode"] [.str "free"]) : FnA P w K mg base 11 a.f__law_asked ["_law_book", "_law_held", "_law_kinds_here", "_law_nodes"] (sp__law_asked a) := by
  obtain ⟨fd, F, b⟩ := T.F__law_asked
  refine FnA.of F sc__law_asked b (fun vs H Q E h => by first | (obtain ⟨rfl, _⟩ := h; rfl) | (obtain ⟨_, rfl, _⟩ := h; rfl) | (obtain ⟨_, _, rfl, _⟩ := h; rfl) | (obtain ⟨_, _, _, rfl, _⟩ := h; rfl) | (obtain ⟨_, _, _, _, rfl, _⟩ := h; rfl) | (obtain ⟨_, _, _, _, _, rfl, _⟩ := h; rfl) | (obtain ⟨_, _, _, _, _, _, rfl, _⟩ := h; rfl) | (obtain ⟨_, _, _, _, _, _, _, rfl, _⟩ := h; rfl) | (obtain ⟨_, _, _, _, _, _, _, _, rfl, _⟩ := h; rfl) | (obtain ⟨_, _, _, _, _, _, _, _, _, rfl, _⟩ := h; rfl) | (obtain ⟨_, _, _, _, _, _, _, _, _, _, rfl, _⟩ := h; rfl) | (obtain ⟨_, _, _, _, _, _, _, _, _, _, _, rfl, _⟩ := h; rfl) | (obtain ⟨_, _, _, _, _, _, _, _, _, _, _, _, rfl, _⟩ := h; rfl) | (obtain ⟨_, _, _, _, _, _, _, _, _, _, _, _, _, rfl, _⟩ := h; rfl) | (obtain ⟨_, _, _, _, _, _, _, _, _, _, _, _, _, _, rfl, _⟩ := h; rfl) | (obtain ⟨_, _, _, _, _, _, _, _, _, _, _, _, _, _, _, rfl, _⟩ := h; rfl) | (obtain ⟨_, _, _, _, _, _, _, _, _, _, _, _, _, _, _, _, rfl, _⟩ := h; rfl) | (obtain ⟨_, _, _, _, _, _, _, _, _, _, _, _, _, _, _, _, _, rfl, _⟩ := h; rfl) | (obtain ⟨_, _, _, _, _, _, _, _, _, _, _, _, _, _, _, _, _, _, rfl, _⟩ := h; rfl) | (obtain ⟨_, _, _, _, _, _, _, _, _, _, _, _, _, _, _, _, _, _, _, rfl, _⟩ := h; rfl) | (obtain ⟨_, _, _, _, _, _, _, _, _, _, _, _, _, _, _, _, _, _, _, _, rfl, _⟩ := h; rfl) | (obtain ⟨_, _, _, _, _, _, _, _, _, _, _, _, _, _, _, _, _, _, _, _, _, rfl, _⟩ := h; rfl) | (obtain ⟨_, _, _, _, _, _, _, _, _, _, _, _, _, _, _, _, _, _, _, _, _, _, rfl, _⟩ := h; rfl) | (obtain ⟨_, _, _, _, _, _, _, _, _, _, _, _, _, _, _, _, _, _, _, _, _, _, _, rfl, _⟩ := h; rfl)) (fun cdv A outer s H vs Q E hr tk pz h => ?_)
  have hu := hr.units
  have hrH := L2H.roomH_of hr
  obtain ⟨w, x, l, r, f, p, j0, j1, j2, j3, g, n, s, us, rfl, hB, hL, W, hN, hg, hul, hus, k⟩ := h
  refine ⟨_, (pss_cons (ps_set (i := 4) sc__law_asked.nd rfl (Or.inl rfl) (pe_callA0 G__law_words (Room.mono hr (by decide)) T.n__law_words tk))
      (pss_cons (ps_for pz rfl (pi_list (pv 3)) (pg_name (i := 5) sc__law_asked.nd rfl (Or.inl rfl))
      (pss_cons (ps_set (i := 6) sc__law_asked.nd rfl (Or.inl rfl) (pe_callA G__law_operation (Room.mono hr (by decide)) T.n__law_operation tk (pa_cons (pv 0) (pa_cons (pv 5) pa_nil))))
      (pss_cons (ps_for pz rfl (pi_range1 rfl T.b_range (pa_cons pe_int pa_nil)) (pg_name (i := 7) sc__law_asked.nd rfl (Or.inl rfl))
      (pss_cons (ps_set (i := 8) sc__law_asked.nd rfl (Or.inl rfl) (pe_callA G__law_refusing (Room.mono hr (by decide)) T.n__law_refusing tk (pa_cons (pv 0) (pa_cons (pv 5) (pa_cons (pe_ix ix_seq (pv 4) (pv 7) (fun _ _ => rfl)) pa_nil)))))
      (pss_cons (ps_set (i := 9) sc__law_asked.nd rfl (Or.inl rfl) (pe_methD (pl := _) (k := 9) (ds := [⟨a.FreeMode, a.f_FreeMode_refusal, ["self", "links", "operation"], (sp_FreeMode_refusal a)⟩, ⟨a.SavingMode, a.f_SavingMode_refusal, ["self", "links", "operation"], (sp_SavingMode_refusal a)⟩, ⟨a.GuardedMode, a.f_GuardedMode_refusal, ["self", "links", "operation"], (sp_GuardedMode_refusal a)⟩, ⟨a.CheckedMode, a.f_CheckedMode_refusal, ["self", "links", "operation"], (sp_CheckedMode_refusal a)⟩]) (List.forall_mem_cons.mpr ⟨⟨T.cl_FreeMode, T.me_FreeMode_refusal, FnA.mono G_FreeMode_refusal (by decide)⟩, List.forall_mem_cons.mpr ⟨⟨T.cl_SavingMode, T.me_SavingMode_refusal, FnA.mono G_SavingMode_refusal (by decide)⟩, List.forall_mem_cons.mpr ⟨⟨T.cl_GuardedMode, T.me_GuardedMode_refusal, FnA.mono G_GuardedMode_refusal (by decide)⟩, List.forall_mem_cons.mpr ⟨⟨T.cl_CheckedMode, T.me_CheckedMode_refusal, FnA.mono G_CheckedMode_refusal (by decide)⟩, fun _ h => absurd h List.not_mem_nil⟩⟩⟩⟩) (Room.mono hr (by decide)) tk (pe_ix ix_seq (pv 2) (pv 7) (fun _ _ => rfl)) (pa_cons (pv 1) (pa_cons (pv 6) pa_nil))))
      (pss_cons (ps_if (PW.pt (pw_or (pt_not (pt_tru (pe_callB (call_isi) rfl T.b_isinstance (by decide +kernel) (pa_cons (pv 9) (pa_cons (pe_bltn (v := .ty "str") rfl T.b_str (by decide +kernel) rfl) pa_nil))))) (pw_or1 (pt_cmpA (o_ne hu) (pv 9) (pv 8) (nomark _))))) (pss_one (ps_ret pe_bl)) pss_nil)
      (pss_one (ps_if (pt_not (pt_tru (pe_callA G__law_truth (Room.mono hr (by decide)) T.n__law_truth tk (pa_cons (pe_callK G_admits (Room.mono hr (by decide)) T.n_admits tk (pa_cons (pv 1) (pa_cons (pv 6) pa_nil)) (pk_cons (pe_ix ix_seq (pv 4) (pv 7) (fun _ _ => rfl)) pk_nil)) (pa_cons (pe_cmpR (o_eq hu) (pv 8) pe_str (nomark _)) pa_nil))))) (pss_one (ps_ret pe_bl)) pss_nil))))))
      (pss_one (ps_if (pt_cmpA o_notB (pe_callKd G_admits (Room.mono hr (by decide)) T.n_admits tk (pa_cons (pv 1) (pa_cons (pv 6) pa_nil))) pe_bl (nomark _)) (pss_one (ps_ret pe_bl)) pss_nil)))))
      (pss_one (ps_ret pe_bl)))), ?_⟩
  show (_ : Ends → L2.St → Hp → Prop) _ [some _, some _, some _, some _, none, none, none, none, none, none] _
  try dsimp only [L2H.cxH, cxOf]
  walk_at "w"
  refine ⟨rfl, fun ws H1 hws hws1 k1 => ?_⟩
  have hg1 := k1.at0 hg
  walk_at "w"
  refine w_forM (us := us) (f := V.int) (p := g) hg1 (fun i σ' H' => (∃ z5 z6 z7 z8 z9 : Option V, σ' = [some (.ref w), some (.ref x), some (.ref p), some (.ref g), some (.ref ws), z5, z6, z7, z8, z9]) ∧ Kp [] H1 H') ⟨⟨_, _, _, _, _, rfl⟩, Kp.refl⟩ (fun i σ' H' _ h => h.2.at0 hg1) ?_ ?_
  · rintro i u σ' H2 hu ⟨⟨z5, z6, z7, z8, z9, rfl⟩, k2⟩
    obtain ⟨u1, u2⟩ := hus u (List.mem_of_getElem? hu)
    have k02 := k1.trans k2
    have hOu := opF_ok (s := s) (n := n) u1 u2
    walk_at "w"
    refine ⟨w, n, u, s, rfl, hB.kp0 k02, W, u1, u2, ?_⟩
    walk_at "w"
    refine w_rng1 (n := 4) (by omega) (by omega) (fun i σ' H' => (∃ z7 z8 z9 : Option V, σ' = [some (.ref w), some (.ref x), some (.ref p), some (.ref g), some (.ref ws), some (.int u), some (.int (opF s u)), z7, z8, z9]) ∧ Kp [] H2 H') ⟨⟨_, _, _, rfl⟩, Kp.refl⟩ ?_ ?_
    · rintro j σ' H3 hj ⟨⟨z7, z8, z9, rfl⟩, k3⟩
      have k03 := k02.trans k3
      have hws3 := k3.at0 (k2.at0 hws1)
      obtain ⟨m, hm, em⟩ : ∃ m : Nat, m = j ∧ m ≤ 3 := ⟨j, rfl, by omega⟩
      have ew : (["free", "saving", "guarded", "checked"] : List Str).getD ((j : Int)).toNat default = wordM j := by
        have : j = 0 ∨ j = 1 ∨ j = 2 ∨ j = 3 := by omega
        rcases this with rfl | rfl | rfl | rfl <;> rfl
      have sl : (["free", "saving", "guarded", "checked"] : List Str).length = 4 := rfl
      generalize (["free", "saving", "guarded", "checked"] : List Str) = wl at hws3 ew sl
      walk_at "w"
      rw [ew]
      refine ⟨w, n, u, s, j, rfl, by omega, hB.kp0 k03, W, u1, u2, fun H4 k4 => ?_⟩
      have k04 := k03.trans k4
      have hws4 := k4.at0 hws3
      obtain ⟨hp4, ⟨e0, h0⟩, ⟨e1, h1⟩, ⟨e2, h2⟩, e3, h3⟩ := hN.kp0 k04
      have judge : ∃ jj dd, ([V.ref j0, .ref j1, .ref j2, .ref j3])[((j : Int)).toNat]? = some (.ref jj) ∧ H4 jj = some (.ins (clsM a j) dd []) := by
        have : j = 0 ∨ j = 1 ∨ j = 2 ∨ j = 3 := by omega
        rcases this with rfl | rfl | rfl | rfl
        · exact ⟨_, _, rfl, h0⟩
        · exact ⟨_, _, rfl, h1⟩
        · exact ⟨_, _, rfl, h2⟩
        · exact ⟨_, _, rfl, h3⟩
      obtain ⟨jj, dd, hj1, hj2⟩ := judge
      have hx4 := (hL.kp0 k04).1.choose_spec
      walk_at "w"
      refine w_judge (by omega) hj2 rfl ?_
      walk_at "w"
      refine ⟨jj, x, l, r, f, n, _, s, j, dd, _, rfl, hj2, Nat.le_refl _, by omega, hL.kp0 k04, W, fun z => absurd hOu.1 z, fun _ z => absurd z hOu.2.2.2, fun _ _ H5 k5 => ?_⟩
      have k05 := k04.trans k5
      have hws5 := k5.at0 hws4
      walk_at "w"
      rw [ew]
      refine ⟨rfl, rfl, x, l, r, f, n, opF s u, s, wordM j, rfl, hL.kp0 k05, W, fun z => absurd rfl (z j (by omega)), fun m2 hm2 e H6 k6 => ⟨fun z => absurd hOu.1 z, fun _ z => absurd z hOu.2.2.2, fun _ _ H7 k7 => ?_⟩⟩
      obtain rfl : j = m2 := word_inj (by omega) hm2 e
      walk_at "w"
      refine ⟨_, _, rfl, ?_⟩
      rw [show (decide (refM s (opF s u) j = ("" : Str)) == decide (refM s (opF s u) j = ("" : Str))) = true by simp]
      walk_at "w"
      exact ⟨⟨_, _, _, rfl⟩, ((k3.trans k4).trans k5).trans (k6.trans k7)⟩
    · rintro σ' H3 ⟨⟨z7, z8, z9, rfl⟩, k3⟩
      have k03 := k02.trans k3
      walk_at "w"
      refine ⟨x, l, r, f, n, opF s u, s, wordM 0, rfl, hL.kp0 k03, W, fun z => absurd rfl (z 0 (by omega)), fun m2 hm2 e H6 k6 => ⟨fun z => absurd hOu.1 z, fun _ z => absurd z hOu.2.2.2, fun _ _ H7 k7 => ?_⟩⟩
      obtain rfl : 0 = m2 := word_inj (by omega) hm2 e
      rw [decide_eq_true (show refM s (opF s u) 0 = ("" : Str) from rfl)]
      walk_at "w"
      exact ⟨⟨_, _, _, _, _, rfl⟩, (k2.trans k3).trans (k6.trans k7)⟩
  · rintro σ' H2 ⟨⟨z5, z6, z7, z8, z9, rfl⟩, k2⟩
    walk_at "w"
    exact k H2 (k1.trans k2)
/-- the nodes whose operations the mode admits -/
def admN (n : Int) (s : St3) (k : Nat) : List Int := (List.range n.toNat).filterMap fun i : Nat => if refM s (opF s (1 + (i : Int))) k = ("" : Str) then some (1 + (i : Int)) else none
theorem adm_nodes (n : Int) (s : St3) (k : Nat) : (admN n s k).map (opF s) = admL s n k := by
  unfold admN admL
  have e : ((List.range n.toNat).map fun i : Nat => opOn s ((i : Int) + 1)) = (List.range n.toNat).map fun i : Nat => opF s (1 + (i : Int)) := List.map_congr_left fun i _ => by
    unfold opF opOn
    rw [show 1 + (i : Int) = (i : Int) + 1 by omega]
  rw [e]
  generalize List.range n.toNat = us
  induction us with
  | nil => rfl
  | cons u us ih =>
    rw [List.filterMap_cons, List.map_cons, List.filter_cons, ← ih]
    by_cases c : refM s (opF s (1 + (u : Int))) k = ("" : Str)
    · rw [if_pos c, if_pos (by simpa using c), List.map_cons]
    · rw [if_neg c, if_neg (by simpa using c)]
theorem admN_in {n : Int} {s : St3} {k : Nat} : ∀ v ∈ admN n s k, 1 ≤ v ∧ v ≤ n := fun v hv => by
  obtain ⟨i, hi, e⟩ := List.mem_filterMap.mp hv
  have := List.mem_range.mp hi
  split at e
  · cases e
    omega
  · cases e
theorem admN_len (n : Int) (s : St3) (k : Nat) : (admN n s k).length ≤ n.toNat := by
  unfold admN
  refine Nat.le_trans (List.length_filterMap_le _ _) (by simp)
def sp__law_listed (a : AD) : Sp := fun vs H Q _ => ∃ (w x l r f : Addr) (n : Int) (s : St3) (m : Nat), vs = [.ref w, .ref x, .str (wordM m)] ∧ m ≤ 3 ∧ Bkx H w n s ∧ LkS a H x l r f n s ∧ WFs n s ∧ ∀ H', Kp [] H H' → Q (.bl true) H'
theorem sc__law_listed : FnScope ["_law_book", "_law_held", "_law_word", "_law_node", "_law_nodes", "_law_due", "_law_told"] ["_law_book", "_law_held", "_law_word"] (defScope s__law_listed) := ⟨rfl, rfl, rfl, by decide +kernel, rfl, by decide +kernel, by decide +kernel⟩
theorem ok__law_listed {P : Program} {w : World} {K : PySem.W.Frag} {mg : Str → Option Value} {base : Heap} {a : AD} (T : Txt P K mg a) (G__law_refusing : FnA P w K mg base 3 a.f__law_refusing ["_law_book", "_law_node", "_law_word"] (sp__law_refusing a)) (G__law_operation : FnA P w K mg base 2 a.f__law_operation ["_law_book", "_law_node"] (sp__law_operation a)) (G_admitted : FnK P w K mg base 10 a.f_admitted ["links", "mode"] (sp_admitted a) 1 ["mode"] [.str "free"]) (G__law_ints : FnA P w K mg base 3 a.f__law_ints ["_law_told", "_law_due"] (sp__law_ints a)) : FnA P w K mg base 11 a.f__law_listed ["_law_book", "_law_held", "_law_word"] (sp__law_listed a) := by
  obtain ⟨fd, F, b⟩ := T.F__law_listed
  refine FnA.of F sc__law_listed b (fun vs H Q E h => by first | (obtain ⟨rfl, _⟩ := h; rfl) | (obtain ⟨_, rfl, _⟩ := h; rfl) | (obtain ⟨_, _, rfl, _⟩ := h; rfl) | (obtain ⟨_, _, _, rfl, _⟩ := h; rfl) | (obtain ⟨_, _, _, _, rfl, _⟩ := h; rfl) | (obtain ⟨_, _, _, _, _, rfl, _⟩ := h; rfl) | (obtain ⟨_, _, _, _, _, _, rfl, _⟩ := h; rfl) | (obtain ⟨_, _, _, _, _, _, _, rfl, _⟩ := h; rfl) | (obtain ⟨_, _, _, _, _, _, _, _, rfl, _⟩ := h; rfl) | (obtain ⟨_, _, _, _, _, _, _, _, _, rfl, _⟩ := h; rfl) | (obtain ⟨_, _, _, _, _, _, _, _, _, _, rfl, _⟩ := h; rfl) | (obtain ⟨_, _, _, _, _, _, _, _, _, _, _, rfl, _⟩ := h; rfl) | (obtain ⟨_, _, _, _, _, _, _, _, _, _, _, _, rfl, _⟩ := h; rfl) | (obtain ⟨_, _, _, _, _, _, _, _, _, _, _, _, _, rfl, _⟩ := h; rfl) | (obtain ⟨_, _, _, _, _, _, _, _, _, _, _, _, _, _, rfl, _⟩ := h; rfl) | (obtain ⟨_, _, _, _, _, _, _, _, _, _, _, _, _, _, _, rfl, _⟩ := h; rfl) | (obtain ⟨_, _, _, _, _, _, _, _, _, _, _, _, _, _, _, _, rfl, _⟩ := h; rfl) | (obtain ⟨_, _, _, _, _, _, _, _, _, _, _, _, _, _, _, _, _, rfl, _⟩ := h; rfl) | (obtain ⟨_, _, _, _, _, _, _, _, _, _, _, _, _, _, _, _, _, _, rfl, _⟩ := h; rfl) | (obtain ⟨_, _, _, _, _, _, _, _, _, _, _, _, _, _, _, _, _, _, _, rfl, _⟩ := h; rfl) | (obtain ⟨_, _, _, _, _, _, _, _, _, _, _, _, _, _, _, _, _, _, _, _, rfl, _⟩ := h; rfl) | (obtain ⟨_, _, _, _, _, _, _, _, _, _, _, _, _, _, _, _, _, _, _, _, _, rfl, _⟩ := h; rfl) | (obtain ⟨_, _, _, _, _, _, _, _, _, _, _, _, _, _, _, _, _, _, _, _, _, _, rfl, _⟩ := h; rfl) | (obtain ⟨_, _, _, _, _, _, _, _, _, _, _, _, _, _, _, _, _, _, _, _, _, _, _, rfl, _⟩ := h; rfl)) (fun cdv A outer s H vs Q E hr tk pz h => ?_)
  have hu := hr.units
  have hrH := L2H.roomH_of hr
  obtain ⟨w, x, l, r, f, n, s, m, rfl, hm, hB, hL, W, k⟩ := h
  refine ⟨_, (pss_cons (ps_setLc (i := 4) (own := [("_law_node", 3)]) (g := (gName 3)) rfl sc__law_listed.nd rfl rfl (sw_true rfl rfl rfl (by decide +kernel)) (pi_range2 rfl T.b_range (pa_cons pe_int (pa_cons (pe_op o_add (pe_ix ix_seq (pv 0) pe_int (fun _ _ => rfl)) pe_int) pa_nil))) (blkOk_by (own := [("_law_node", 3)]) (N := ["_law_book", "_law_held", "_law_word", "_law_node", "_law_nodes", "_law_due", "_law_told"]) (sc := defScope s__law_listed) (by decide +kernel)) (fun _ _ _ _ _ => (pg_name (i := 3) sc__law_listed.nd rfl (Or.inl rfl))) (fun _ _ _ _ _ => (pts_one (pt_cmpA (show OpR _ _ (aEq K) from (o_eq hu)) (pe_callA G__law_refusing (Room.mono hr (by decide)) T.n__law_refusing takes0 (pa_cons (pv 0) (pa_cons (pv 3) (pa_cons (pv 2) pa_nil)))) pe_str (nomark _)))) (fun _ _ _ _ _ => (pv 3)))
      (pss_cons (ps_setLc (i := 5) (own := [("_law_node", 3)]) (g := (gName 3)) (tt := tYes) rfl sc__law_listed.nd rfl rfl (sw_true rfl rfl rfl (by decide +kernel)) (pi_list (pv 4)) (blkOk_by (own := [("_law_node", 3)]) (N := ["_law_book", "_law_held", "_law_word", "_law_node", "_law_nodes", "_law_due", "_law_told"]) (sc := defScope s__law_listed) (by decide +kernel)) (fun _ _ _ _ _ => (pg_name (i := 3) sc__law_listed.nd rfl (Or.inl rfl))) (fun _ _ _ _ _ => pts_nil) (fun _ _ _ _ _ => (pe_callA G__law_operation (Room.mono hr (by decide)) T.n__law_operation takes0 (pa_cons (pv 0) (pa_cons (pv 3) pa_nil)))))
      (pss_cons (ps_set (i := 6) sc__law_listed.nd rfl (Or.inl rfl) (pe_callK G_admitted (Room.mono hr (by decide)) T.n_admitted tk (pa_cons (pv 1) pa_nil) (pk_cons (pv 2) pk_nil)))
      (pss_cons (ps_if (pt_not (pt_tru (pe_callA G__law_ints (Room.mono hr (by decide)) T.n__law_ints tk (pa_cons (pv 6) (pa_cons (pv 5) pa_nil))))) (pss_one (ps_ret pe_bl)) pss_nil)
      (pss_cons (ps_expr (pe_bm PySem.F.plainAttrs_list PySem.F.slot_list_append PySem.F.type_list_append mt_append (pv 6) (pa_cons pe_int pa_nil)))
      (pss_cut (ps_if (PW.pt (pw_and (pt_cmpA (o_eq hu) (pv 2) pe_str (nomark _)) (pw_and1 (pt_not (pt_tru (pe_callA G__law_ints (Room.mono hr (by decide)) T.n__law_ints tk (pa_cons (pe_callKd G_admitted (Room.mono hr (by decide)) T.n_admitted tk (pa_cons (pv 1) pa_nil)) (pa_cons (pv 5) pa_nil)))))))) (pss_one (ps_ret pe_bl)) pss_nil)
      (pss_one (ps_ret (pe_callA G__law_ints (Room.mono hr (by decide)) T.n__law_ints tk (pa_cons (pe_callK G_admitted (Room.mono hr (by decide)) T.n_admitted tk (pa_cons (pv 1) pa_nil) (pk_cons (pv 2) pk_nil)) (pa_cons (pv 5) pa_nil))))))))))), ?_⟩
  show (_ : Ends → L2.St → Hp → Prop) _ [some _, some _, some _, none, none, none, none] _
  try dsimp only [L2H.cxH, cxOf]
  have n0 := WF.n0 W
  have n1 := WF.n1 W
  have hw := hB.choose_spec.choose_spec.choose_spec.1
  have al := admN_len n s m
  have ae := adm_nodes n s m
  walk_at "w"
  refine w_lcR2 (f' := V.int) (fun i : Nat => if refM s (opF s (1 + (i : Int))) m = ("" : Str) then some (1 + (i : Int)) else none) (lo := 1) (n := n + 1) (by omega) (by omega) (by omega) (by omega) (by rw [sizeLine_eq]; omega) ?_ ?_
  · intro D i acc H' hD hi hk hA hlen
    walk_at "w"
    refine ⟨rfl, ?_⟩
    walk_at "w"
    refine ⟨w, n, _, s, m, rfl, hm, hB.kp0 hk, W, by omega, by omega, fun H2 k2 => ?_⟩
    have hA2 := k2.at0 hA
    have hk2 := hk.trans k2
    walk_at "w"
    refine w_ite (fun c => ?_) (fun c => ?_)
    · walk_at "w"
      exact w_keep hk2 hA2 hlen hD (by rw [if_pos c])
    · exact w_drop hk2 hA2 (by rw [if_neg c])
  intro g H1 hg k1 hg1
  rw [show (n + 1 - 1).toNat = n.toNat by omega] at hg1
  have hg1 : H1 g = some (.lst ((admN n s m).map V.int)) := hg1
  have hB1 := hB.kp0 k1
  walk_at "w"
  refine w_lcM (us := admN n s m) (f := V.int) (f' := V.int) (fun v => some (opF s v)) hg1 (by rw [sizeLine_eq]; omega) ?_ ?_
  · intro D i u acc H' hD hu hk hA hlen
    obtain ⟨u1, u2⟩ := admN_in u (List.mem_of_getElem? hu)
    walk_at "w"
    refine ⟨rfl, ?_⟩
    walk_at "w"
    refine ⟨w, n, u, s, rfl, hB1.kp0 hk, W, u1, u2, ?_⟩
    exact w_keep hk hA hlen hD rfl
  intro d H2 hd k2 hd2
  rw [fm_some, ae] at hd2
  have hL2 := hL.kp0 (k1.trans k2)
  have k02 := k1.trans k2
  have ll : (admL s n m).length ≤ n.toNat := by rw [← ae, List.length_map]; exact al
  clear hg1 hB1 k1 k2 hL hB hw
  walk_at "w"
  refine ⟨rfl, rfl, x, l, r, f, n, s, wordM m, rfl, hL2, W, fun z => absurd rfl (z m hm), fun m2 hm2 e t1 H3 ht1 k3 ht13 => ?_⟩
  obtain rfl : m = m2 := word_inj hm hm2 e
  have hd3 := k3.at0 hd2
  have dt : d ≠ t1 := ne_of_none hd2 ht1
  walk_at "w"
  refine ⟨t1, d, _, _, rfl, ht13, hd3, by omega, by omega, ?_⟩
  rw [show decide (admL s n m = admL s n m) = true by simp]
  walk_at "w"
  have kk : Kp [] H2 (upd H3 t1 (.lst ((admL s n m ++ [0]).map V.int))) := k3.own ht1
  have hd4 := kk.at0 hd2
  have hL4 := hL2.kp0 kk
  have k04 := k02.trans kk
  generalize upd H3 t1 (.lst ((admL s n m ++ [0]).map V.int)) = H4 at hd4 hL4 k04 ⊢
  clear kk hd3 hL2 k02 k3 ht13
  refine s_cut (fun σ' H' => (∃ z3 : Option V, σ' = [some (.ref w), some (.ref x), some (.str (wordM m)), z3, some (.ref g), some (.ref d), some (.ref t1)]) ∧ Kp [] H4 H') ?_ ?_
  · walk_at "w"
    refine w_ite (fun c => ?_) (fun c => ?_)
    · have m0 : m = 0 := word_inj hm (by omega) c
      subst m0
      walk_at "w"
      refine ⟨x, l, r, f, n, s, wordM 0, rfl, hL4, W, fun z => absurd rfl (z 0 (by omega)), fun m2 hm2 e t2 H5 ht2 k5 ht25 => ?_⟩
      obtain rfl : 0 = m2 := word_inj (by omega) hm2 e
      have hd5 := k5.at0 hd4
      walk_at "w"
      refine ⟨t2, d, _, _, rfl, ht25, hd5, by omega, by omega, ?_⟩
      rw [show decide (admL s n 0 = admL s n 0) = true by simp]
      walk_at "w"
      exact ⟨⟨_, rfl⟩, k5⟩
    · walk_at "w"
      exact ⟨⟨_, rfl⟩, Kp.refl⟩
  rintro σ' H5 ⟨⟨z3, rfl⟩, k5⟩
  have hL5 := hL4.kp0 k5
  have hd5 := k5.at0 hd4
  walk_at "w"
  refine ⟨rfl, rfl, x, l, r, f, n, s, wordM m, rfl, hL5, W, fun z => absurd rfl (z m hm), fun m2 hm2 e t2 H6 ht2 k6 ht26 => ?_⟩
  obtain rfl : m = m2 := word_inj hm hm2 e
  have hd6 := k6.at0 hd5
  walk_at "w"
  refine ⟨t2, d, _, _, rfl, ht26, hd6, by omega, by omega, ?_⟩
  rw [show decide (admL s n m = admL s n m) = true by simp]
  exact k H6 ((k04.trans k5).trans k6)
def WrongO (n : Int) (s : St3) (o : Int) (z : Str) : Prop := (z = "illegal" ∧ IsOp n o ∧ s.2.2.getD o.natAbs default = decide (o < 0)) ∨ (z = "bad" ∧ ¬IsOp n o)
theorem opF_neg {n : Int} {s : St3} {v : Int} (v1 : 1 ≤ v) (v2 : v ≤ n) : WrongO n s (-opF s v) "illegal" := by
  refine .inl ⟨rfl, ?_⟩
  have hO := opF_ok (s := s) v1 v2
  have h1 := hO.1
  unfold IsOp at h1 ⊢
  refine ⟨⟨by omega, by omega⟩, ?_⟩
  have e : (-opF s v).natAbs = (opF s v).natAbs := by omega
  rw [e, hO.2.1]
  unfold opF
  by_cases c : s.2.2.getD v.toNat default = true
  · rw [if_pos c, c]
    symm
    simp
    omega
  · rw [if_neg c]
    have c' : s.2.2.getD v.toNat default = false := by simpa using c
    rw [c']
    symm
    simp
    omega
def sp__law_wrong (a : AD) : Sp := fun vs H Q _ => ∃ (b q w l r f : Addr) (n : Int) (s : St3), vs = [.ref b, .ref w] ∧ Bx H b q ∧ BkS H [b, q] w l r f n s ∧ WFs n s ∧ ∀ (t : Addr) (o : Int) (z : Str) (H' : Hp), H t = none → WrongO n s o z → H' t = some (.tup [.int o, .str z]) → Bx H' b q → Kp [b, q] H H' → Q (.ref t) H'
theorem sc__law_wrong : FnScope ["_law_purse_here", "_law_book", "_law_size", "_law_pick", "_law_far"] ["_law_purse_here", "_law_book"] (defScope s__law_wrong) := ⟨rfl, rfl, rfl, by decide +kernel, rfl, by decide +kernel, by decide +kernel⟩
theorem ok__law_wrong {P : Program} {w : World} {K : PySem.W.Frag} {mg : Str → Option Value} {base : Heap} {a : AD} (T : Txt P K mg a) (G__law_take : FnA P w K mg base 2 a.f__law_take ["_law_purse_here", "_law_many"] (sp__law_take a)) (G__law_operation : FnA P w K mg base 2 a.f__law_operation ["_law_book", "_law_node"] (sp__law_operation a)) : FnA P w K mg base 3 a.f__law_wrong ["_law_purse_here", "_law_book"] (sp__law_wrong a) := by
  obtain ⟨fd, F, b⟩ := T.F__law_wrong
  refine FnA.of F sc__law_wrong b (fun vs H Q E h => by first | (obtain ⟨rfl, _⟩ := h; rfl) | (obtain ⟨_, rfl, _⟩ := h; rfl) | (obtain ⟨_, _, rfl, _⟩ := h; rfl) | (obtain ⟨_, _, _, rfl, _⟩ := h; rfl) | (obtain ⟨_, _, _, _, rfl, _⟩ := h; rfl) | (obtain ⟨_, _, _, _, _, rfl, _⟩ := h; rfl) | (obtain ⟨_, _, _, _, _, _, rfl, _⟩ := h; rfl) | (obtain ⟨_, _, _, _, _, _, _, rfl, _⟩ := h; rfl) | (obtain ⟨_, _, _, _, _, _, _, _, rfl, _⟩ := h; rfl) | (obtain ⟨_, _, _, _, _, _, _, _, _, rfl, _⟩ := h; rfl) | (obtain ⟨_, _, _, _, _, _, _, _, _, _, rfl, _⟩ := h; rfl) | (obtain ⟨_, _, _, _, _, _, _, _, _, _, _, rfl, _⟩ := h; rfl) | (obtain ⟨_, _, _, _, _, _, _, _, _, _, _, _, rfl, _⟩ := h; rfl) | (obtain ⟨_, _, _, _, _, _, _, _, _, _, _, _, _, rfl, _⟩ := h; rfl) | (obtain ⟨_, _, _, _, _, _, _, _, _, _, _, _, _, _, rfl, _⟩ := h; rfl) | (obtain ⟨_, _, _, _, _, _, _, _, _, _, _, _, _, _, _, rfl, _⟩ := h; rfl) | (obtain ⟨_, _, _, _, _, _, _, _, _, _, _, _, _, _, _, _, rfl, _⟩ := h; rfl) | (obtain ⟨_, _, _, _, _, _, _, _, _, _, _, _, _, _, _, _, _, rfl, _⟩ := h; rfl) | (obtain ⟨_, _, _, _, _, _, _, _, _, _, _, _, _, _, _, _, _, _, rfl, _⟩ := h; rfl) | (obtain ⟨_, _, _, _, _, _, _, _, _, _, _, _, _, _, _, _, _, _, _, rfl, _⟩ := h; rfl) | (obtain ⟨_, _, _, _, _, _, _, _, _, _, _, _, _, _, _, _, _, _, _, _, rfl, _⟩ := h; rfl) | (obtain ⟨_, _, _, _, _, _, _, _, _, _, _, _, _, _, _, _, _, _, _, _, _, rfl, _⟩ := h; rfl) | (obtain ⟨_, _, _, _, _, _, _, _, _, _, _, _, _, _, _, _, _, _, _, _, _, _, rfl, _⟩ := h; rfl) | (obtain ⟨_, _, _, _, _, _, _, _, _, _, _, _, _, _, _, _, _, _, _, _, _, _, _, rfl, _⟩ := h; rfl)) (fun cdv A outer s H vs Q E hr tk pz h => ?_)
  have hu := hr.units
  have hrH := L2H.roomH_of hr
  obtain ⟨b, q, w, l, r, f, n, s, rfl, B, hB, W, k⟩ := h
  refine ⟨_, (pss_cons (ps_set (i := 2) sc__law_wrong.nd rfl (Or.inl rfl) (pe_ix ix_seq (pv 1) pe_int (fun _ _ => rfl)))
      (pss_cons (ps_set (i := 3) sc__law_wrong.nd rfl (Or.inl rfl) (pe_callA G__law_take (Room.mono hr (by decide)) T.n__law_take tk (pa_cons (pv 0) (pa_cons pe_int pa_nil))))
      (pss_cons (ps_set (i := 4) sc__law_wrong.nd rfl (Or.inl rfl) (pe_op o_add (pe_op o_add (pv 2) pe_int) (pe_callA G__law_take (Room.mono hr (by decide)) T.n__law_take tk (pa_cons (pv 0) (pa_cons pe_int pa_nil)))))
      (pss_cons (ps_if (PW.pt (pw_and (pt_cmpA op_gt (pv 2) pe_int (nomark _)) (pw_and1 (pt_cmpA op_gt (pv 3) pe_int (nomark _))))) (pss_one (ps_ret (pe_tup (pa_cons (pe_un un_neg (pe_callA G__law_operation (Room.mono hr (by decide)) T.n__law_operation tk (pa_cons (pv 1) (pa_cons (pe_op o_add pe_int (pe_callA G__law_take (Room.mono hr (by decide)) T.n__law_take tk (pa_cons (pv 0) (pa_cons (pv 2) pa_nil)))) pa_nil)))) (pa_cons pe_str pa_nil))))) pss_nil)
      (pss_one (ps_ret (pe_tup (pa_cons (pe_ix ix_seq (pe_lst (pa_cons pe_int (pa_cons (pv 4) (pa_cons (pe_un un_neg (pv 4)) (pa_cons (pe_op o_add (pe_op op_pow pe_int pe_int) (pv 4)) (pa_cons (pe_op op_sub (pe_un un_neg (pe_op op_pow pe_int pe_int)) (pv 4)) pa_nil)))))) (pe_op op_mod (pv 3) pe_int) (fun _ _ => rfl)) (pa_cons pe_str pa_nil))))))))), ?_⟩
  show (_ : Ends → L2.St → Hp → Prop) _ [some _, some _, none, none, none] _
  try dsimp only [L2H.cxH, cxOf]
  have n0 := WF.n0 W
  have n1 := WF.n1 W
  have hw := hB.1.1
  walk_at "w"
  refine ⟨b, q, 10, rfl, B, by omega, by omega, fun pk H1 p0 p1 B1 k1 => ?_⟩
  have hB1 := hB.kp k1 (by simp)
  walk_at "w"
  refine ⟨b, q, 40, rfl, B1, by omega, by omega, fun d H2 d0 d1 B2 k2 => ?_⟩
  have hB2 := hB1.kp k2 (by simp)
  have k02 := k1.trans k2
  clear hB hB1 B B1 k1 k2 hw
  have hw2 := hB2.1.1
  walk_at "w"
  have fin : ∀ (o : Int), ¬IsOp n o → ∀ (x : Addr) (H3 : Hp), H3 x = none → Kp [] H2 H3 → Q (.ref x) (upd H3 x (.tup [.int o, .str "bad"])) := fun o ho x H3 hx hk => k x o "bad" _ ((k02.trans0 hk).freeB (B2.kp hk) hx) (.inr ⟨rfl, ho⟩) upd_same ((B2.kp hk).kp (Kp.refl.new hx)) ((k02.trans0 hk).new hx)
  have fives : ∀ u ∈ ([0, n + 1 + d, -(n + 1 + d), 10 ^ (Int.toNat 9) + (n + 1 + d), -10 ^ (Int.toNat 9) - (n + 1 + d)] : List Int), ¬IsOp n u := by
    intro u hu ho
    have e9 : (10 : Int) ^ (Int.toNat 9) = 1000000000 := by decide
    rw [e9] at hu
    unfold IsOp at ho
    simp only [List.mem_cons, List.mem_nil_iff, or_false] at hu
    rcases hu with rfl | rfl | rfl | rfl | rfl <;> omega
  have p5 : 0 ≤ pk % 5 ∧ pk % 5 < 5 := ⟨Int.emod_nonneg _ (by omega), Int.emod_lt_of_pos _ (by omega)⟩
  refine w_ite (fun c1 => ?_) (fun c1 => ?_)
  · walk_at "w"
    refine w_ite (fun c2 => ?_) (fun c2 => ?_)
    · walk_at "w"
      refine ⟨b, q, n, rfl, B2, by omega, by omega, fun v H3 v0 v1 B3 k3 => ?_⟩
      have k03 := k02.trans k3
      have hB3 := hB2.kp k3 (by simp)
      walk_at "w"
      refine ⟨w, n, 1 + v, s, rfl, hB3.1.x, W, by omega, by omega, ?_⟩
      walk_at "w"
      intro x hx
      exact k x _ "illegal" _ (k03.freeB B3 hx) (opF_neg (by omega) (by omega)) upd_same (B3.kp (Kp.refl.new hx)) (k03.new hx)
    · walk_at "w"
      intro z hz
      have e : HO.lst [V.int 0, .int (n + 1 + d), .int (-(n + 1 + d)), .int (10 ^ Int.toNat 9 + (n + 1 + d)), .int (-10 ^ Int.toNat 9 - (n + 1 + d))] = .lst (([0, n + 1 + d, -(n + 1 + d), 10 ^ (Int.toNat 9) + (n + 1 + d), -10 ^ (Int.toNat 9) - (n + 1 + d)] : List Int).map V.int) := rfl
      rw [e]
      have kz := Kp.refl.new (ms := []) (o := .lst (([0, n + 1 + d, -(n + 1 + d), 10 ^ (Int.toNat 9) + (n + 1 + d), -10 ^ (Int.toNat 9) - (n + 1 + d)] : List Int).map V.int)) hz
      have hz3 : upd H2 z (.lst (([0, n + 1 + d, -(n + 1 + d), 10 ^ (Int.toNat 9) + (n + 1 + d), -10 ^ (Int.toNat 9) - (n + 1 + d)] : List Int).map V.int)) z = some (.lst (([0, n + 1 + d, -(n + 1 + d), 10 ^ (Int.toNat 9) + (n + 1 + d), -10 ^ (Int.toNat 9) - (n + 1 + d)] : List Int).map V.int)) := upd_same
      have l5 : ([0, n + 1 + d, -(n + 1 + d), 10 ^ (Int.toNat 9) + (n + 1 + d), -10 ^ (Int.toNat 9) - (n + 1 + d)] : List Int).length = 5 := rfl
      generalize ([0, n + 1 + d, -(n + 1 + d), 10 ^ (Int.toNat 9) + (n + 1 + d), -10 ^ (Int.toNat 9) - (n + 1 + d)] : List Int) = zs at kz hz3 l5 fives ⊢
      generalize upd H2 z (.lst (zs.map V.int)) = H3 at kz hz3 ⊢
      have hi := fives _ (List.mem_of_getElem? (getD_some (show (pk % 5).toNat < zs.length by omega)))
      walk_at "w"
      intro x hx
      exact fin _ hi x _ hx kz
  · walk_at "w"
    intro z hz
    have e : HO.lst [V.int 0, .int (n + 1 + d), .int (-(n + 1 + d)), .int (10 ^ Int.toNat 9 + (n + 1 + d)), .int (-10 ^ Int.toNat 9 - (n + 1 + d))] = .lst (([0, n + 1 + d, -(n + 1 + d), 10 ^ (Int.toNat 9) + (n + 1 + d), -10 ^ (Int.toNat 9) - (n + 1 + d)] : List Int).map V.int) := rfl
    rw [e]
    have kz := Kp.refl.new (ms := []) (o := .lst (([0, n + 1 + d, -(n + 1 + d), 10 ^ (Int.toNat 9) + (n + 1 + d), -10 ^ (Int.toNat 9) - (n + 1 + d)] : List Int).map V.int)) hz
    have hz3 : upd H2 z (.lst (([0, n + 1 + d, -(n + 1 + d), 10 ^ (Int.toNat 9) + (n + 1 + d), -10 ^ (Int.toNat 9) - (n + 1 + d)] : List Int).map V.int)) z = some (.lst (([0, n + 1 + d, -(n + 1 + d), 10 ^ (Int.toNat 9) + (n + 1 + d), -10 ^ (Int.toNat 9) - (n + 1 + d)] : List Int).map V.int)) := upd_same
    have l5 : ([0, n + 1 + d, -(n + 1 + d), 10 ^ (Int.toNat 9) + (n + 1 + d), -10 ^ (Int.toNat 9) - (n + 1 + d)] : List Int).length = 5 := rfl
    generalize ([0, n + 1 + d, -(n + 1 + d), 10 ^ (Int.toNat 9) + (n + 1 + d), -10 ^ (Int.toNat 9) - (n + 1 + d)] : List Int) = zs at kz hz3 l5 fives ⊢
    generalize upd H2 z (.lst (zs.map V.int)) = H3 at kz hz3 ⊢
    have hi := fives _ (List.mem_of_getElem? (getD_some (show (pk % 5).toNat < zs.length by omega)))
    walk_at "w"
    intro x hx
    exact fin _ hi x _ hx kz
/-! ### texts that are no modes -/
def txtW (w : Str) (i : Nat) (y : Nat) : Str :=
  if y = 0 then cutS w none (some (i : Int)) ++ cutS w (some ((i : Int) + 1)) none
  else if y = 1 then cutS w none (some (i : Int)) ++ ⟨#[w.cps.toList.getD i 0]⟩ ++ cutS w (some (i : Int)) none
  else if y = 2 then cutS w none (some (i : Int)) ++ Txt.upper ⟨#[w.cps.toList.getD i 0]⟩ ++ cutS w (some ((i : Int) + 1)) none
  else if y = 3 then (" " : Str) ++ w
  else ""
theorem txt_no : ∀ k, k < 4 → ∀ i, i < 7 → i < (wordM k).length → ∀ y, y < 5 → ∀ m, m < 4 → txtW (wordM k) i y ≠ wordM m := by decide +kernel
theorem word_len : ∀ k, k < 4 → (wordM k).length ≤ 7 ∧ 1 ≤ (wordM k).length ∧ (wordM k).cps.toList.length = (wordM k).length := by decide +kernel
def sp__law_text (a : AD) : Sp := fun vs H Q _ => ∃ (b q : Addr), vs = [.ref b] ∧ Bx H b q ∧ ∀ (z : Str) (H' : Hp), (∀ m : Nat, m ≤ 3 → z ≠ wordM m) → Bx H' b q → Kp [b, q] H H' → Q (.str z) H'
theorem sc__law_text : FnScope ["_law_purse_here", "_law_word", "_law_place", "_law_way"] ["_law_purse_here"] (defScope s__law_text) := ⟨rfl, rfl, rfl, by decide +kernel, rfl, by decide +kernel, by decide +kernel⟩
theorem ok__law_text {P : Program} {w : World} {K : PySem.W.Frag} {mg : Str → Option Value} {base : Heap} {a : AD} (T : Txt P K mg a) (G__law_words : FnA P w K mg base 2 a.f__law_words [] (sp__law_words a)) (G__law_take : FnA P w K mg base 2 a.f__law_take ["_law_purse_here", "_law_many"] (sp__law_take a)) : FnA P w K mg base 3 a.f__law_text ["_law_purse_here"] (sp__law_text a) := by
  obtain ⟨fd, F, b⟩ := T.F__law_text
  refine FnA.of F sc__law_text b (fun vs H Q E h => by first | (obtain ⟨rfl, _⟩ := h; rfl) | (obtain ⟨_, rfl, _⟩ := h; rfl) | (obtain ⟨_, _, rfl, _⟩ := h; rfl) | (obtain ⟨_, _, _, rfl, _⟩ := h; rfl) | (obtain ⟨_, _, _, _, rfl, _⟩ := h; rfl) | (obtain ⟨_, _, _, _, _, rfl, _⟩ := h; rfl) | (obtain ⟨_, _, _, _, _, _, rfl, _⟩ := h; rfl) | (obtain ⟨_, _, _, _, _, _, _, rfl, _⟩ := h; rfl) | (obtain ⟨_, _, _, _, _, _, _, _, rfl, _⟩ := h; rfl) | (obtain ⟨_, _, _, _, _, _, _, _, _, rfl, _⟩ := h; rfl) | (obtain ⟨_, _, _, _, _, _, _, _, _, _, rfl, _⟩ := h; rfl) | (obtain ⟨_, _, _, _, _, _, _, _, _, _, _, rfl, _⟩ := h; rfl) | (obtain ⟨_, _, _, _, _, _, _, _, _, _, _, _, rfl, _⟩ := h; rfl) | (obtain ⟨_, _, _, _, _, _, _, _, _, _, _, _, _, rfl, _⟩ := h; rfl) | (obtain ⟨_, _, _, _, _, _, _, _, _, _, _, _, _, _, rfl, _⟩ := h; rfl) | (obtain ⟨_, _, _, _, _, _, _, _, _, _, _, _, _, _, _, rfl, _⟩ := h; rfl) | (obtain ⟨_, _, _, _, _, _, _, _, _, _, _, _, _, _, _, _, rfl, _⟩ := h; rfl) | (obtain ⟨_, _, _, _, _, _, _, _, _, _, _, _, _, _, _, _, _, rfl, _⟩ := h; rfl) | (obtain ⟨_, _, _, _, _, _, _, _, _, _, _, _, _, _, _, _, _, _, rfl, _⟩ := h; rfl) | (obtain ⟨_, _, _, _, _, _, _, _, _, _, _, _, _, _, _, _, _, _, _, rfl, _⟩ := h; rfl) | (obtain ⟨_, _, _, _, _, _, _, _, _, _, _, _, _, _, _, _, _, _, _, _, rfl, _⟩ := h; rfl) | (obtain ⟨_, _, _, _, _, _, _, _, _, _, _, _, _, _, _, _, _, _, _, _, _, rfl, _⟩ := h; rfl) | (obtain ⟨_, _, _, _, _, _, _, _, _, _, _, _, _, _, _, _, _, _, _, _, _, _, rfl, _⟩ := h; rfl) | (obtain ⟨_, _, _, _, _, _, _, _, _, _, _, _, _, _, _, _, _, _, _, _, _, _, _, rfl, _⟩ := h; rfl)) (fun cdv A outer s H vs Q E hr tk pz h => ?_)
  have hu := hr.units
  have hrH := L2H.roomH_of hr
  obtain ⟨b, q, rfl, B, k⟩ := h
  refine ⟨_, (pss_cons (ps_set (i := 1) sc__law_text.nd rfl (Or.inl rfl) (pe_ix ix_seq (pe_callA0 G__law_words (Room.mono hr (by decide)) T.n__law_words tk) (pe_callA G__law_take (Room.mono hr (by decide)) T.n__law_take tk (pa_cons (pv 0) (pa_cons pe_int pa_nil))) (fun _ _ => rfl)))
      (pss_cons (ps_set (i := 2) sc__law_text.nd rfl (Or.inl rfl) (pe_callA G__law_take (Room.mono hr (by decide)) T.n__law_take tk (pa_cons (pv 0) (pa_cons (pe_callB (b_len) rfl T.b_len (by decide +kernel) (pa_cons (pv 1) pa_nil)) pa_nil))))
      (pss_cons (ps_set (i := 3) sc__law_text.nd rfl (Or.inl rfl) (pe_callA G__law_take (Room.mono hr (by decide)) T.n__law_take tk (pa_cons (pv 0) (pa_cons pe_int pa_nil))))
      (pss_cons (ps_if (pt_cmpA (o_eq hu) (pv 3) pe_int (nomark _)) (pss_one (ps_ret (pe_op o_add (pe_slice sl_any (pv 1) po_none (po_some (pv 2))) (pe_slice sl_any (pv 1) (po_some (pe_op o_add (pv 2) pe_int)) po_none)))) pss_nil)
      (pss_cons (ps_if (pt_cmpA (o_eq hu) (pv 3) pe_int (nomark _)) (pss_one (ps_ret (pe_op o_add (pe_op o_add (pe_slice sl_any (pv 1) po_none (po_some (pv 2))) (pe_ix ix_seq (pv 1) (pv 2) (fun _ _ => rfl))) (pe_slice sl_any (pv 1) (po_some (pv 2)) po_none)))) pss_nil)
      (pss_cons (ps_if (pt_cmpA (o_eq hu) (pv 3) pe_int (nomark _)) (pss_one (ps_ret (pe_op o_add (pe_op o_add (pe_slice sl_any (pv 1) po_none (po_some (pv 2))) (pe_bm0 PySem.F.plainAttrs_str PySem.F.slot_str_upper PySem.F.type_str_upper m_upper (pe_ix ix_seq (pv 1) (pv 2) (fun _ _ => rfl)))) (pe_slice sl_any (pv 1) (po_some (pe_op o_add (pv 2) pe_int)) po_none)))) pss_nil)
      (pss_cons (ps_if (pt_cmpA (o_eq hu) (pv 3) pe_int (nomark _)) (pss_one (ps_ret (pe_op o_add pe_str (pv 1)))) pss_nil)
      (pss_one (ps_ret pe_str))))))))), ?_⟩
  show (_ : Ends → L2.St → Hp → Prop) _ [some _, none, none, none] _
  try dsimp only [L2H.cxH, cxOf]
  walk_at "w"
  refine ⟨rfl, fun g H1 hg hg1 k1 => ?_⟩
  have B1 := B.kp k1
  have gB : g ∉ [b, q] := B.off hg
  walk_at "w"
  refine ⟨b, q, 4, rfl, B1, by omega, by omega, fun j H2 j0 j1 B2 k2 => ?_⟩
  have hg2 := k2 g _ hg1 gB
  have k02 := (k1.mono (ns := [b, q]) (by simp)).trans k2
  have ew : (["free", "saving", "guarded", "checked"] : List Str).getD j.toNat default = wordM j.toNat := by
    have : j = 0 ∨ j = 1 ∨ j = 2 ∨ j = 3 := by omega
    rcases this with rfl | rfl | rfl | rfl <;> rfl
  have sl : (["free", "saving", "guarded", "checked"] : List Str).length = 4 := rfl
  generalize (["free", "saving", "guarded", "checked"] : List Str) = wl at hg1 hg2 ew sl
  walk_at "w"
  rw [ew]
  have wl2 := word_len j.toNat (by omega)
  have tn := txt_no j.toNat (by omega)
  generalize wordM j.toNat = w' at wl2 tn ⊢
  clear hg1 hg2 B1 k1 k2 ew sl
  walk_at "w"
  refine ⟨b, q, (w'.length : Int), rfl, B2, by omega, by omega, fun d H3 d0 d1 B3 k3 => ?_⟩
  walk_at "w"
  refine ⟨b, q, 5, rfl, B3, by omega, by omega, fun y H4 y0 y1 B4 k4 => ?_⟩
  have k04 := (k02.trans k3).trans k4
  have tn2 := fun y hy m hm => tn d.toNat (by omega) (by omega) y hy m hm
  have hc : w'.cps.toList[d.toNat]? = some (w'.cps.toList.getD d.toNat 0) := by
    rw [List.getD_eq_getElem?_getD, List.getElem?_eq_getElem (by omega)]
    rfl
  have c1 := cutS_len w' none (some d)
  have c2 := cutS_len w' (some (d + 1)) none
  have c3 := cutS_len w' (some d) none
  have c4 : (⟨#[w'.cps.toList.getD d.toNat 0]⟩ : Str).length = 1 := rfl
  have ed : ((d.toNat : Nat) : Int) = d := by omega
  have fin : ∀ (yy : Nat) (z : Str), yy < 5 → txtW w' d.toNat yy = z → Q (.str z) H4 := fun yy z hy e => k z H4 (fun m hm => by rw [← e]; exact tn2 yy hy m (by omega)) B4 k04
  have f0 := fin 0 _ (by omega) rfl
  have f1 := fin 1 _ (by omega) rfl
  have f2 := fin 2 _ (by omega) rfl
  have f3 := fin 3 _ (by omega) rfl
  have f4 := fin 4 _ (by omega) rfl
  unfold txtW at f0 f1 f2 f3 f4
  rw [if_pos rfl, ed] at f0
  rw [if_neg (by omega), if_pos rfl, ed] at f1
  rw [if_neg (by omega), if_neg (by omega), if_pos rfl, ed] at f2
  rw [if_neg (by omega), if_neg (by omega), if_neg (by omega), if_pos rfl] at f3
  rw [if_neg (by omega), if_neg (by omega), if_neg (by omega), if_neg (by omega)] at f4
  have hsl : w'.length ≤ sizeLine := by rw [sizeLine_eq]; omega
  have sp1 : (" " : Str).length = 1 := by decide +kernel
  have lu := PyProof.Rows.len_upper (⟨#[w'.cps.toList.getD d.toNat 0]⟩ : Str)
  rw [c4] at lu
  have l2 : (cutS w' none (some d) ++ Txt.upper ⟨#[w'.cps.toList.getD d.toNat 0]⟩ : Str).length = (cutS w' none (some d)).length + (Txt.upper ⟨#[w'.cps.toList.getD d.toNat 0]⟩ : Str).length := by rw [app_len]
  have l1 : (cutS w' none (some d) ++ ⟨#[w'.cps.toList.getD d.toNat 0]⟩ : Str).length = (cutS w' none (some d)).length + 1 := by rw [app_len, c4]
  walk_at "w"
  refine w_ite (fun c => ?_) (fun c => ?_)
  · walk_at "w"
    exact f0
  walk_at "w"
  refine w_ite (fun c' => ?_) (fun c' => ?_)
  · walk_at "w"
    refine w_ixS hsl d0 hc ?_
    walk_at "w"
    exact f1
  walk_at "w"
  refine w_ite (fun c' => ?_) (fun c' => ?_)
  · walk_at "w"
    refine w_ixS hsl d0 hc ?_
    walk_at "w"
    exact f2
  walk_at "w"
  refine w_ite (fun c' => ?_) (fun c' => ?_)
  · walk_at "w"
    exact f3
  walk_at "w"
  exact f4
theorem sch__law_is : FnScope ["_law_told", "_law_due"] ["_law_told", "_law_due"] (defScope s__law_is) := ⟨rfl, rfl, rfl, by decide +kernel, rfl, by decide +kernel, by decide +kernel⟩
theorem hk__law_is {P : Program} {w : World} {K : PySem.W.Frag} {mg : Str → Option Value} {base : Heap} {a : AD} (T : Txt P K mg a) : FnHA P w K mg base 2 a.f__law_is ["_law_told", "_law_due"] (sp__law_is a) := by
  obtain ⟨fd, F, b⟩ := T.F__law_is
  refine FnHA.of F sch__law_is b (fun vs H Q E h => by first | (obtain ⟨rfl, _⟩ := h; rfl) | (obtain ⟨_, rfl, _⟩ := h; rfl) | (obtain ⟨_, _, rfl, _⟩ := h; rfl) | (obtain ⟨_, _, _, rfl, _⟩ := h; rfl) | (obtain ⟨_, _, _, _, rfl, _⟩ := h; rfl) | (obtain ⟨_, _, _, _, _, rfl, _⟩ := h; rfl) | (obtain ⟨_, _, _, _, _, _, rfl, _⟩ := h; rfl) | (obtain ⟨_, _, _, _, _, _, _, rfl, _⟩ := h; rfl) | (obtain ⟨_, _, _, _, _, _, _, _, rfl, _⟩ := h; rfl) | (obtain ⟨_, _, _, _, _, _, _, _, _, rfl, _⟩ := h; rfl) | (obtain ⟨_, _, _, _, _, _, _, _, _, _, rfl, _⟩ := h; rfl) | (obtain ⟨_, _, _, _, _, _, _, _, _, _, _, rfl, _⟩ := h; rfl) | (obtain ⟨_, _, _, _, _, _, _, _, _, _, _, _, rfl, _⟩ := h; rfl) | (obtain ⟨_, _, _, _, _, _, _, _, _, _, _, _, _, rfl, _⟩ := h; rfl) | (obtain ⟨_, _, _, _, _, _, _, _, _, _, _, _, _, _, rfl, _⟩ := h; rfl) | (obtain ⟨_, _, _, _, _, _, _, _, _, _, _, _, _, _, _, rfl, _⟩ := h; rfl) | (obtain ⟨_, _, _, _, _, _, _, _, _, _, _, _, _, _, _, _, rfl, _⟩ := h; rfl) | (obtain ⟨_, _, _, _, _, _, _, _, _, _, _, _, _, _, _, _, _, rfl, _⟩ := h; rfl) | (obtain ⟨_, _, _, _, _, _, _, _, _, _, _, _, _, _, _, _, _, _, rfl, _⟩ := h; rfl) | (obtain ⟨_, _, _, _, _, _, _, _, _, _, _, _, _, _, _, _, _, _, _, rfl, _⟩ := h; rfl) | (obtain ⟨_, _, _, _, _, _, _, _, _, _, _, _, _, _, _, _, _, _, _, _, rfl, _⟩ := h; rfl) | (obtain ⟨_, _, _, _, _, _, _, _, _, _, _, _, _, _, _, _, _, _, _, _, _, rfl, _⟩ := h; rfl) | (obtain ⟨_, _, _, _, _, _, _, _, _, _, _, _, _, _, _, _, _, _, _, _, _, _, rfl, _⟩ := h; rfl) | (obtain ⟨_, _, _, _, _, _, _, _, _, _, _, _, _, _, _, _, _, _, _, _, _, _, _, rfl, _⟩ := h; rfl)) (fun cdv A outer s H vs Q E pin hot1 hrH hot pz h => ?_)
  have hu := roomH_units hrH
  obtain ⟨t, d, rfl, k⟩ := h
  refine ⟨_, (pss_one (ps_ret (pe_and (pe_callB (call_isi) rfl T.b_isinstance (by decide +kernel) (pa_cons (pv 0) (pa_cons (pe_bltn (v := .ty "int") rfl T.b_int (by decide +kernel) rfl) pa_nil))) (pe_and (pe_not (pe_callB (call_isi) rfl T.b_isinstance (by decide +kernel) (pa_cons (pv 0) (pa_cons (pe_bltn (v := .ty "bool") rfl T.b_bool (by decide +kernel) rfl) pa_nil)))) (pe_one (pe_cmpR (o_eq hu) (pv 0) (pv 1) (nomark _))))))), ?_⟩
  show (_ : Ends → L2.St → Hp → Prop) _ [some _, some _] _
  try dsimp only [L2H.cxH, cxOf]
  walk_at "w"
  exact k
def sp__law_refused (a : AD) : Sp := fun vs H Q _ => ∃ (jj dd x l r f : Addr) (n o : Int) (s : St3) (m : Nat) (z : Str), vs = [.ref jj, .ref x, .int o] ∧ m ≤ 3 ∧ H jj = some (.ins (clsM a m) dd []) ∧ LkS a H x l r f n s ∧ WFs n s ∧ WrongO n s o z ∧ ∀ t H', H t = none → H' t = some (.tup [.str z, .bl true]) → Kp [] H H' → Q (.ref t) H'
theorem sc__law_refused : FnScope ["_law_kind", "_law_held", "_law_operation_here", "raised"] ["_law_kind", "_law_held", "_law_operation_here"] (defScope s__law_refused) := ⟨rfl, rfl, rfl, by decide +kernel, rfl, by decide +kernel, by decide +kernel⟩
theorem ok__law_refused {P : Program} {w : World} {K : PySem.W.Frag} {mg : Str → Option Value} {base : Heap} {a : AD} (T : Txt P K mg a) (G_FreeMode_refusal : FnA P w K mg base 4 a.f_FreeMode_refusal ["self", "links", "operation"] (sp_FreeMode_refusal a)) (G_SavingMode_refusal : FnA P w K mg base 7 a.f_SavingMode_refusal ["self", "links", "operation"] (sp_SavingMode_refusal a)) (G_GuardedMode_refusal : FnA P w K mg base 8 a.f_GuardedMode_refusal ["self", "links", "operation"] (sp_GuardedMode_refusal a)) (G_CheckedMode_refusal : FnA P w K mg base 9 a.f_CheckedMode_refusal ["self", "links", "operation"] (sp_CheckedMode_refusal a)) (H__law_is : FnHA P w K mg base 2 a.f__law_is ["_law_told", "_law_due"] (sp__law_is a)) : FnA P w K mg base 10 a.f__law_refused ["_law_kind", "_law_held", "_law_operation_here"] (sp__law_refused a) := by
  obtain ⟨fd, F, b⟩ := T.F__law_refused
  refine FnA.of F sc__law_refused b (fun vs H Q E h => by first | (obtain ⟨rfl, _⟩ := h; rfl) | (obtain ⟨_, rfl, _⟩ := h; rfl) | (obtain ⟨_, _, rfl, _⟩ := h; rfl) | (obtain ⟨_, _, _, rfl, _⟩ := h; rfl) | (obtain ⟨_, _, _, _, rfl, _⟩ := h; rfl) | (obtain ⟨_, _, _, _, _, rfl, _⟩ := h; rfl) | (obtain ⟨_, _, _, _, _, _, rfl, _⟩ := h; rfl) | (obtain ⟨_, _, _, _, _, _, _, rfl, _⟩ := h; rfl) | (obtain ⟨_, _, _, _, _, _, _, _, rfl, _⟩ := h; rfl) | (obtain ⟨_, _, _, _, _, _, _, _, _, rfl, _⟩ := h; rfl) | (obtain ⟨_, _, _, _, _, _, _, _, _, _, rfl, _⟩ := h; rfl) | (obtain ⟨_, _, _, _, _, _, _, _, _, _, _, rfl, _⟩ := h; rfl) | (obtain ⟨_, _, _, _, _, _, _, _, _, _, _, _, rfl, _⟩ := h; rfl) | (obtain ⟨_, _, _, _, _, _, _, _, _, _, _, _, _, rfl, _⟩ := h; rfl) | (obtain ⟨_, _, _, _, _, _, _, _, _, _, _, _, _, _, rfl, _⟩ := h; rfl) | (obtain ⟨_, _, _, _, _, _, _, _, _, _, _, _, _, _, _, rfl, _⟩ := h; rfl) | (obtain ⟨_, _, _, _, _, _, _, _, _, _, _, _, _, _, _, _, rfl, _⟩ := h; rfl) | (obtain ⟨_, _, _, _, _, _, _, _, _, _, _, _, _, _, _, _, _, rfl, _⟩ := h; rfl) | (obtain ⟨_, _, _, _, _, _, _, _, _, _, _, _, _, _, _, _, _, _, rfl, _⟩ := h; rfl) | (obtain ⟨_, _, _, _, _, _, _, _, _, _, _, _, _, _, _, _, _, _, _, rfl, _⟩ := h; rfl) | (obtain ⟨_, _, _, _, _, _, _, _, _, _, _, _, _, _, _, _, _, _, _, _, rfl, _⟩ := h; rfl) | (obtain ⟨_, _, _, _, _, _, _, _, _, _, _, _, _, _, _, _, _, _, _, _, _, rfl, _⟩ := h; rfl) | (obtain ⟨_, _, _, _, _, _, _, _, _, _, _, _, _, _, _, _, _, _, _, _, _, _, rfl, _⟩ := h; rfl) | (obtain ⟨_, _, _, _, _, _, _, _, _, _, _, _, _, _, _, _, _, _, _, _, _, _, _, rfl, _⟩ := h; rfl)) (fun cdv A outer s H vs Q E hr tk pz h => ?_)
  have hu := hr.units
  have hrH := L2H.roomH_of hr
  obtain ⟨jj, dd, x, l, r, f, n, o, s, m, z, rfl, hm, hj, hL, W, hw, k⟩ := h
  refine ⟨_, (pss_cons (L2N.ps_try_manyA (tb := fun W => (tDrop (tMethD [⟨a.FreeMode, a.f_FreeMode_refusal, ["self", "links", "operation"], (sp_FreeMode_refusal a)⟩, ⟨a.SavingMode, a.f_SavingMode_refusal, ["self", "links", "operation"], (sp_SavingMode_refusal a)⟩, ⟨a.GuardedMode, a.f_GuardedMode_refusal, ["self", "links", "operation"], (sp_GuardedMode_refusal a)⟩, ⟨a.CheckedMode, a.f_CheckedMode_refusal, ["self", "links", "operation"], (sp_CheckedMode_refusal a)⟩] "refusal" (WE W) (tVar 0) (tCons (tVar 1) (tCons (tVar 2) tNil))))) (l := [(.ref a.BadOperation, some 3, fun ea cls d => (tRet (tTup (tCons (tC (.str "bad")) (tCons (tAndV (tCallS (sp__law_is a) (fun _ => E0) (tCons (tXfG K ea cls d "operation" (tVar 3)) (tCons (tVar 2) tNil))) (tCallS (sp__law_is a) (fun _ => E0) (tCons (tXfG K ea cls d "index" (tVar 3)) (tCons (tC (.int 0)) tNil)))) tNil))))), (.ref a.Illegal, some 3, fun ea cls d => (tRet (tTup (tCons (tC (.str "illegal")) (tCons (tAndV (tCallS (sp__law_is a) (fun _ => E0) (tCons (tXfG K ea cls d "operation" (tVar 3)) (tCons (tVar 2) tNil))) (tCallS (sp__law_is a) (fun _ => E0) (tCons (tXfG K ea cls d "index" (tVar 3)) (tCons (tC (.int 0)) tNil)))) tNil))))), (.ref a.LinkError, none, fun ea cls d => (tRet (tTup (tCons (tC (.str "other")) (tCons (tC (.bl false)) tNil)))))]) rfl rfl sc__law_refused.nd tk
      (fun W pn xe tk2 pz => (pss_one (ps_expr (pe_methD (pl := _) (k := 9) (ds := [⟨a.FreeMode, a.f_FreeMode_refusal, ["self", "links", "operation"], (sp_FreeMode_refusal a)⟩, ⟨a.SavingMode, a.f_SavingMode_refusal, ["self", "links", "operation"], (sp_SavingMode_refusal a)⟩, ⟨a.GuardedMode, a.f_GuardedMode_refusal, ["self", "links", "operation"], (sp_GuardedMode_refusal a)⟩, ⟨a.CheckedMode, a.f_CheckedMode_refusal, ["self", "links", "operation"], (sp_CheckedMode_refusal a)⟩]) (List.forall_mem_cons.mpr ⟨⟨T.cl_FreeMode, T.me_FreeMode_refusal, FnA.mono G_FreeMode_refusal (by decide)⟩, List.forall_mem_cons.mpr ⟨⟨T.cl_SavingMode, T.me_SavingMode_refusal, FnA.mono G_SavingMode_refusal (by decide)⟩, List.forall_mem_cons.mpr ⟨⟨T.cl_GuardedMode, T.me_GuardedMode_refusal, FnA.mono G_GuardedMode_refusal (by decide)⟩, List.forall_mem_cons.mpr ⟨⟨T.cl_CheckedMode, T.me_CheckedMode_refusal, FnA.mono G_CheckedMode_refusal (by decide)⟩, fun _ h => absurd h List.not_mem_nil⟩⟩⟩⟩) (Room.mono hr (by decide)) tk2 (pv 0) (pa_cons (pv 1) (pa_cons (pv 2) pa_nil))))))
      (L2N.HdsA.cons rfl rfl ⟨rfl, by decide, Or.inl T.c_BadOperation⟩ (fun ea oe cls d pn hz hf => (pss_one (ps_ret (pe_tup (pa_cons pe_str (pa_cons (pe_and (pe_callHA H__law_is (roomH_s hrH (by decide) rfl rfl) (hot_suite hz hf) T.n__law_is (pa_cons (by exact pe_xfG (L2N.Zn.zc hz) hf (pv 3)) (pa_cons (pv 2) pa_nil))) (pe_one (pe_callHA H__law_is (roomH_s hrH (by decide) rfl rfl) (hot_suite hz hf) T.n__law_is (pa_cons (by exact pe_xfG (L2N.Zn.zc hz) hf (pv 3)) (pa_cons pe_int pa_nil))))) pa_nil))))))
      (L2N.HdsA.cons rfl rfl ⟨rfl, by decide, Or.inl T.c_Illegal⟩ (fun ea oe cls d pn hz hf => (pss_one (ps_ret (pe_tup (pa_cons pe_str (pa_cons (pe_and (pe_callHA H__law_is (roomH_s hrH (by decide) rfl rfl) (hot_suite hz hf) T.n__law_is (pa_cons (by exact pe_xfG (L2N.Zn.zc hz) hf (pv 3)) (pa_cons (pv 2) pa_nil))) (pe_one (pe_callHA H__law_is (roomH_s hrH (by decide) rfl rfl) (hot_suite hz hf) T.n__law_is (pa_cons (by exact pe_xfG (L2N.Zn.zc hz) hf (pv 3)) (pa_cons pe_int pa_nil))))) pa_nil))))))
      (L2N.HdsA.conz ⟨rfl, by decide, Or.inl T.c_LinkError⟩ (fun ea oe cls d pn hz hf => (pss_one (ps_ret (pe_tup (pa_cons pe_str (pa_cons pe_bl pa_nil))))))
      L2N.HdsA.nil))))
      (pss_one (ps_ret (pe_tup (pa_cons pe_str (pa_cons pe_bl pa_nil)))))), ?_⟩
  show (_ : Ends → L2.St → Hp → Prop) _ [some _, some _, some _, none] _
  try dsimp only [L2H.cxH, cxOf]
  have hx := hL.1.choose_spec
  walk_at "w"
  refine w_judge hm hj rfl ?_
  walk_at "w"
  refine ⟨jj, x, l, r, f, n, o, s, m, dd, _, rfl, hj, Nat.le_refl _, hm, hL, W, fun hop d H1 hd hd1 k1 => ?_, fun hop hfl d H1 hd hd1 k1 => ?_, fun hop hfl => ?_⟩
  · obtain rfl : z = "bad" := hw.elim (fun y => absurd y.2.1 hop) fun y => y.1
    refine w_asT T.t_BadOperation_BadOperation.2 (fun y hy => ?_)
    walk_at "w"
    refine ⟨o, o, rfl, ?_⟩
    rw [show decide (o = o) = true by simp]
    walk_at "w"
    refine ⟨0, 0, rfl, ?_⟩
    rw [show decide ((0 : Int) = 0) = true by simp]
    walk_at "w"
    intro t ht
    exact k t _ (k1.free ht) upd_same (k1.new ht)
  · obtain rfl : z = "illegal" := hw.elim (fun y => y.1) fun y => absurd hop y.2
    refine w_asF T.t_Illegal_BadOperation.2 ?_
    refine w_asT T.t_Illegal_Illegal.2 (fun y hy => ?_)
    walk_at "w"
    refine ⟨o, o, rfl, ?_⟩
    rw [show decide (o = o) = true by simp]
    walk_at "w"
    refine ⟨0, 0, rfl, ?_⟩
    rw [show decide ((0 : Int) = 0) = true by simp]
    walk_at "w"
    intro t ht
    exact k t _ (k1.free ht) upd_same (k1.new ht)
  · rcases hw with y | y
    · exact absurd y.2.2 hfl
    · exact absurd hop y.2
def sp__law_barred (a : AD) : Sp := fun vs H Q _ => ∃ (x l r f : Addr) (n o : Int) (s : St3) (m : Nat) (z : Str), vs = [.ref x, .int o, .str (wordM m)] ∧ m ≤ 3 ∧ LkS a H x l r f n s ∧ WFs n s ∧ WrongO n s o z ∧ ∀ t H', H t = none → H' t = some (.tup [.str z, .bl true]) → Kp [] H H' → Q (.ref t) H'
theorem sc__law_barred : FnScope ["_law_held", "_law_operation_here", "_law_word", "raised", "_law_good"] ["_law_held", "_law_operation_here", "_law_word"] (defScope s__law_barred) := ⟨rfl, rfl, rfl, by decide +kernel, rfl, by decide +kernel, by decide +kernel⟩
theorem ok__law_barred {P : Program} {w : World} {K : PySem.W.Frag} {mg : Str → Option Value} {base : Heap} {a : AD} (T : Txt P K mg a) (G_admits : FnK P w K mg base 10 a.f_admits ["links", "operation", "mode"] (sp_admits a) 2 ["mode"] [.str "free"]) (H__law_is : FnHA P w K mg base 2 a.f__law_is ["_law_told", "_law_due"] (sp__law_is a)) : FnA P w K mg base 11 a.f__law_barred ["_law_held", "_law_operation_here", "_law_word"] (sp__law_barred a) := by
  obtain ⟨fd, F, b⟩ := T.F__law_barred
  refine FnA.of F sc__law_barred b (fun vs H Q E h => by first | (obtain ⟨rfl, _⟩ := h; rfl) | (obtain ⟨_, rfl, _⟩ := h; rfl) | (obtain ⟨_, _, rfl, _⟩ := h; rfl) | (obtain ⟨_, _, _, rfl, _⟩ := h; rfl) | (obtain ⟨_, _, _, _, rfl, _⟩ := h; rfl) | (obtain ⟨_, _, _, _, _, rfl, _⟩ := h; rfl) | (obtain ⟨_, _, _, _, _, _, rfl, _⟩ := h; rfl) | (obtain ⟨_, _, _, _, _, _, _, rfl, _⟩ := h; rfl) | (obtain ⟨_, _, _, _, _, _, _, _, rfl, _⟩ := h; rfl) | (obtain ⟨_, _, _, _, _, _, _, _, _, rfl, _⟩ := h; rfl) | (obtain ⟨_, _, _, _, _, _, _, _, _, _, rfl, _⟩ := h; rfl) | (obtain ⟨_, _, _, _, _, _, _, _, _, _, _, rfl, _⟩ := h; rfl) | (obtain ⟨_, _, _, _, _, _, _, _, _, _, _, _, rfl, _⟩ := h; rfl) | (obtain ⟨_, _, _, _, _, _, _, _, _, _, _, _, _, rfl, _⟩ := h; rfl) | (obtain ⟨_, _, _, _, _, _, _, _, _, _, _, _, _, _, rfl, _⟩ := h; rfl) | (obtain ⟨_, _, _, _, _, _, _, _, _, _, _, _, _, _, _, rfl, _⟩ := h; rfl) | (obtain ⟨_, _, _, _, _, _, _, _, _, _, _, _, _, _, _, _, rfl, _⟩ := h; rfl) | (obtain ⟨_, _, _, _, _, _, _, _, _, _, _, _, _, _, _, _, _, rfl, _⟩ := h; rfl) | (obtain ⟨_, _, _, _, _, _, _, _, _, _, _, _, _, _, _, _, _, _, rfl, _⟩ := h; rfl) | (obtain ⟨_, _, _, _, _, _, _, _, _, _, _, _, _, _, _, _, _, _, _, rfl, _⟩ := h; rfl) | (obtain ⟨_, _, _, _, _, _, _, _, _, _, _, _, _, _, _, _, _, _, _, _, rfl, _⟩ := h; rfl) | (obtain ⟨_, _, _, _, _, _, _, _, _, _, _, _, _, _, _, _, _, _, _, _, _, rfl, _⟩ := h; rfl) | (obtain ⟨_, _, _, _, _, _, _, _, _, _, _, _, _, _, _, _, _, _, _, _, _, _, rfl, _⟩ := h; rfl) | (obtain ⟨_, _, _, _, _, _, _, _, _, _, _, _, _, _, _, _, _, _, _, _, _, _, _, rfl, _⟩ := h; rfl)) (fun cdv A outer s H vs Q E hr tk pz h => ?_)
  have hu := hr.units
  have hrH := L2H.roomH_of hr
  obtain ⟨x, l, r, f, n, o, s, m, z, rfl, hm, hL, W, hw, k⟩ := h
  refine ⟨_, (pss_cons (L2N.ps_try_manyA (tb := fun W => (tDrop (tCallK 2 1 (sp_admits a) (WE W) (tCons (tVar 0) (tCons (tVar 1) tNil)) (tCons (tVar 2) tNil)))) (l := [(.ref a.LogError, some 3, fun ea cls d => (tSeq (tAsg (tAndV (tCB (rIsG K ea cls d) (tCons (tVar 3) (tCons (tC (.ref a.LinkError)) tNil))) (tCB (rIsG K ea cls d) (tCons (tVar 3) (tCons (tC (.ty "ValueError")) tNil)))) (gName 4)) (tSeq (tAsg (tAndV (tVar 4) (tAndV (tCallS (sp__law_is a) (fun _ => E0) (tCons (tXfG K ea cls d "operation" (tVar 3)) (tCons (tVar 1) tNil))) (tCallS (sp__law_is a) (fun _ => E0) (tCons (tXfG K ea cls d "index" (tVar 3)) (tCons (tC (.int 0)) tNil))))) (gName 4)) (tSeq (tIfS (cTru K (tCB (rIsG K ea cls d) (tCons (tVar 3) (tCons (tC (.ref a.Illegal)) tNil)))) (tRet (tTup (tCons (tC (.str "illegal")) (tCons (tAndV (tVar 4) (tNotV (tCB (rIsG K ea cls d) (tCons (tVar 3) (tCons (tC (.ref a.BadOperation)) tNil))))) tNil)))) tNext) (tSeq (tIfS (cTru K (tCB (rIsG K ea cls d) (tCons (tVar 3) (tCons (tC (.ref a.BadOperation)) tNil)))) (tRet (tTup (tCons (tC (.str "bad")) (tCons (tVar 4) tNil)))) tNext) (tRet (tTup (tCons (tC (.str "other")) (tCons (tC (.bl false)) tNil))))))))), (.ref a.LinkError, none, fun ea cls d => (tRet (tTup (tCons (tC (.str "other")) (tCons (tC (.bl false)) tNil)))))]) rfl rfl sc__law_barred.nd tk
      (fun W pn xe tk2 pz => (pss_one (ps_expr (pe_callK G_admits (Room.mono hr (by decide)) T.n_admits tk2 (pa_cons (pv 0) (pa_cons (pv 1) pa_nil)) (pk_cons (pv 2) pk_nil)))))
      (L2N.HdsA.cons rfl rfl ⟨rfl, by decide, Or.inl T.c_LogError⟩ (fun ea oe cls d pn hz hf => (pss_cons (ps_set (i := 4) sc__law_barred.nd rfl (Or.inl rfl) (pe_and (pe_callB (by exact call_isG (L2N.Zn.zc hz) hf) rfl T.b_isinstance (by decide +kernel) (pa_cons (pv 3) (pa_cons (pe_glob (v := .ref a.LinkError) rfl T.c_LinkError rfl) pa_nil))) (pe_one (pe_callB (by exact call_isG (L2N.Zn.zc hz) hf) rfl T.b_isinstance (by decide +kernel) (pa_cons (pv 3) (pa_cons (pe_bltn (v := .ty "ValueError") rfl T.b_ValueError (by decide +kernel) rfl) pa_nil))))))
      (pss_cons (ps_set (i := 4) sc__law_barred.nd rfl (Or.inl rfl) (pe_and (pv 4) (pe_and (pe_callHA H__law_is (roomH_s hrH (by decide) rfl rfl) (hot_suite hz hf) T.n__law_is (pa_cons (by exact pe_xfG (L2N.Zn.zc hz) hf (pv 3)) (pa_cons (pv 1) pa_nil))) (pe_one (pe_callHA H__law_is (roomH_s hrH (by decide) rfl rfl) (hot_suite hz hf) T.n__law_is (pa_cons (by exact pe_xfG (L2N.Zn.zc hz) hf (pv 3)) (pa_cons pe_int pa_nil)))))))
      (pss_cons (ps_if (pt_tru (pe_callB (by exact call_isG (L2N.Zn.zc hz) hf) rfl T.b_isinstance (by decide +kernel) (pa_cons (pv 3) (pa_cons (pe_glob (v := .ref a.Illegal) rfl T.c_Illegal rfl) pa_nil)))) (pss_one (ps_ret (pe_tup (pa_cons pe_str (pa_cons (pe_and (pv 4) (pe_one (pe_not (pe_callB (by exact call_isG (L2N.Zn.zc hz) hf) rfl T.b_isinstance (by decide +kernel) (pa_cons (pv 3) (pa_cons (pe_glob (v := .ref a.BadOperation) rfl T.c_BadOperation rfl) pa_nil)))))) pa_nil))))) pss_nil)
      (pss_cons (ps_if (pt_tru (pe_callB (by exact call_isG (L2N.Zn.zc hz) hf) rfl T.b_isinstance (by decide +kernel) (pa_cons (pv 3) (pa_cons (pe_glob (v := .ref a.BadOperation) rfl T.c_BadOperation rfl) pa_nil)))) (pss_one (ps_ret (pe_tup (pa_cons pe_str (pa_cons (pv 4) pa_nil))))) pss_nil)
      (pss_one (ps_ret (pe_tup (pa_cons pe_str (pa_cons pe_bl pa_nil))))))))))
      (L2N.HdsA.conz ⟨rfl, by decide, Or.inl T.c_LinkError⟩ (fun ea oe cls d pn hz hf => (pss_one (ps_ret (pe_tup (pa_cons pe_str (pa_cons pe_bl pa_nil))))))
      L2N.HdsA.nil)))
      (pss_one (ps_ret (pe_tup (pa_cons pe_str (pa_cons pe_bl pa_nil)))))), ?_⟩
  show (_ : Ends → L2.St → Hp → Prop) _ [some _, some _, some _, none, none] _
  try dsimp only [L2H.cxH, cxOf]
  walk_at "w"
  refine ⟨rfl, rfl, x, l, r, f, n, o, s, wordM m, rfl, hL, W, fun y => absurd rfl (y m hm), fun m2 hm2 e H1 k1 => ⟨fun hop d H2 hd hd1 k2 => ?_, fun hop hfl d H2 hd hd1 k2 => ?_, fun hop hfl => ?_⟩⟩
  · obtain rfl : z = "bad" := hw.elim (fun y => absurd y.2.1 hop) fun y => y.1
    refine w_asT T.t_BadOperation_LogError.2 (fun y hy => ?_)
    walk_at "w"
    refine ⟨o, o, rfl, ?_⟩
    rw [show decide (o = o) = true by simp]
    walk_at "w"
    refine ⟨0, 0, rfl, ?_⟩
    rw [show decide ((0 : Int) = 0) = true by simp]
    walk_at "w"
    intro t ht
    exact k t _ ((k1.trans k2).free ht) upd_same ((k1.trans k2).new ht)
  · obtain rfl : z = "illegal" := hw.elim (fun y => y.1) fun y => absurd hop y.2
    refine w_asT T.t_Illegal_LogError.2 (fun y hy => ?_)
    walk_at "w"
    refine ⟨o, o, rfl, ?_⟩
    rw [show decide (o = o) = true by simp]
    walk_at "w"
    refine ⟨0, 0, rfl, ?_⟩
    rw [show decide ((0 : Int) = 0) = true by simp]
    walk_at "w"
    intro t ht
    exact k t _ ((k1.trans k2).free ht) upd_same ((k1.trans k2).new ht)
  · rcases hw with y | y
    · exact absurd y.2.2 hfl
    · exact absurd hop y.2
def sp__law_no_mode (a : AD) : Sp := fun vs H Q _ => ∃ (x l r f : Addr) (way n o : Int) (s : St3) (z : Str), vs = [.int way, .ref x, .int o, .str z] ∧ (way = 0 ∨ way = 1 ∨ way = 2) ∧ LkS a H x l r f n s ∧ WFs n s ∧ (∀ m : Nat, m ≤ 3 → z ≠ wordM m) ∧ ∀ H', Kp [] H H' → Q (.bl true) H'
theorem sc__law_no_mode : FnScope ["_law_way", "_law_held", "_law_operation_here", "_law_wrong_here", "raised", "_law_good"] ["_law_way", "_law_held", "_law_operation_here", "_law_wrong_here"] (defScope s__law_no_mode) := ⟨rfl, rfl, rfl, by decide +kernel, rfl, by decide +kernel, by decide +kernel⟩
theorem ok__law_no_mode {P : Program} {w : World} {K : PySem.W.Frag} {mg : Str → Option Value} {base : Heap} {a : AD} (T : Txt P K mg a) (G_mode_named : FnA P w K mg base 3 a.f_mode_named ["mode"] (sp_mode_named a)) (G_admits : FnK P w K mg base 10 a.f_admits ["links", "operation", "mode"] (sp_admits a) 2 ["mode"] [.str "free"]) (G_admitted : FnK P w K mg base 10 a.f_admitted ["links", "mode"] (sp_admitted a) 1 ["mode"] [.str "free"]) : FnA P w K mg base 11 a.f__law_no_mode ["_law_way", "_law_held", "_law_operation_here", "_law_wrong_here"] (sp__law_no_mode a) := by
  obtain ⟨fd, F, b⟩ := T.F__law_no_mode
  refine FnA.of F sc__law_no_mode b (fun vs H Q E h => by first | (obtain ⟨rfl, _⟩ := h; rfl) | (obtain ⟨_, rfl, _⟩ := h; rfl) | (obtain ⟨_, _, rfl, _⟩ := h; rfl) | (obtain ⟨_, _, _, rfl, _⟩ := h; rfl) | (obtain ⟨_, _, _, _, rfl, _⟩ := h; rfl) | (obtain ⟨_, _, _, _, _, rfl, _⟩ := h; rfl) | (obtain ⟨_, _, _, _, _, _, rfl, _⟩ := h; rfl) | (obtain ⟨_, _, _, _, _, _, _, rfl, _⟩ := h; rfl) | (obtain ⟨_, _, _, _, _, _, _, _, rfl, _⟩ := h; rfl) | (obtain ⟨_, _, _, _, _, _, _, _, _, rfl, _⟩ := h; rfl) | (obtain ⟨_, _, _, _, _, _, _, _, _, _, rfl, _⟩ := h; rfl) | (obtain ⟨_, _, _, _, _, _, _, _, _, _, _, rfl, _⟩ := h; rfl) | (obtain ⟨_, _, _, _, _, _, _, _, _, _, _, _, rfl, _⟩ := h; rfl) | (obtain ⟨_, _, _, _, _, _, _, _, _, _, _, _, _, rfl, _⟩ := h; rfl) | (obtain ⟨_, _, _, _, _, _, _, _, _, _, _, _, _, _, rfl, _⟩ := h; rfl) | (obtain ⟨_, _, _, _, _, _, _, _, _, _, _, _, _, _, _, rfl, _⟩ := h; rfl) | (obtain ⟨_, _, _, _, _, _, _, _, _, _, _, _, _, _, _, _, rfl, _⟩ := h; rfl) | (obtain ⟨_, _, _, _, _, _, _, _, _, _, _, _, _, _, _, _, _, rfl, _⟩ := h; rfl) | (obtain ⟨_, _, _, _, _, _, _, _, _, _, _, _, _, _, _, _, _, _, rfl, _⟩ := h; rfl) | (obtain ⟨_, _, _, _, _, _, _, _, _, _, _, _, _, _, _, _, _, _, _, rfl, _⟩ := h; rfl) | (obtain ⟨_, _, _, _, _, _, _, _, _, _, _, _, _, _, _, _, _, _, _, _, rfl, _⟩ := h; rfl) | (obtain ⟨_, _, _, _, _, _, _, _, _, _, _, _, _, _, _, _, _, _, _, _, _, rfl, _⟩ := h; rfl) | (obtain ⟨_, _, _, _, _, _, _, _, _, _, _, _, _, _, _, _, _, _, _, _, _, _, rfl, _⟩ := h; rfl) | (obtain ⟨_, _, _, _, _, _, _, _, _, _, _, _, _, _, _, _, _, _, _, _, _, _, _, rfl, _⟩ := h; rfl)) (fun cdv A outer s H vs Q E hr tk pz h => ?_)
  have hu := hr.units
  have hrH := L2H.roomH_of hr
  obtain ⟨x, l, r, f, way, n, o, s, z, rfl, hway, hL, W, hz, k⟩ := h
  refine ⟨_, (pss_cons (L2N.ps_try_manyA (tb := fun W => (tSeq (tIfS (cB (tOp (aEq K) (tVar 0) (tC (.int 0)))) (tDrop (tCallS (sp_mode_named a) (WE W) (tCons (tVar 3) tNil))) tNext) (tSeq (tIfS (cB (tOp (aEq K) (tVar 0) (tC (.int 1)))) (tDrop (tCallK 2 1 (sp_admits a) (WE W) (tCons (tVar 1) (tCons (tVar 2) tNil)) (tCons (tVar 3) tNil))) tNext) (tIfS (cB (tOp (aEq K) (tVar 0) (tC (.int 2)))) (tDrop (tCallK 1 1 (sp_admitted a) (WE W) (tCons (tVar 1) tNil) (tCons (tVar 3) tNil))) tNext)))) (l := [(.ref a.BadMode, some 4, fun ea cls d => (tSeq (tAsg (tAndV (tCB (rIsG K ea cls d) (tCons (tVar 4) (tCons (tC (.ref a.LinkError)) tNil))) (tNotV (tCB (rIsG K ea cls d) (tCons (tVar 4) (tCons (tC (.ref a.LogError)) tNil))))) (gName 5)) (tRet (tAndV (tVar 5) (tAndV (tCB (rIsi K) (tCons (tXfG K ea cls d "name" (tVar 4)) (tCons (tC (.ty "str")) tNil))) (tOp (aEq K) (tXfG K ea cls d "name" (tVar 4)) (tVar 3))))))), (.ref a.LinkError, none, fun ea cls d => (tRet (tC (.bl false))))]) rfl rfl sc__law_no_mode.nd tk
      (fun W pn xe tk2 pz => (pss_cons (ps_if (pt_cmpA (o_eq hu) (pv 0) pe_int (nomark _)) (pss_one (ps_expr (pe_callA G_mode_named (Room.mono hr (by decide)) T.n_mode_named tk2 (pa_cons (pv 3) pa_nil)))) pss_nil)
      (pss_cons (ps_if (pt_cmpA (o_eq hu) (pv 0) pe_int (nomark _)) (pss_one (ps_expr (pe_callK G_admits (Room.mono hr (by decide)) T.n_admits tk2 (pa_cons (pv 1) (pa_cons (pv 2) pa_nil)) (pk_cons (pv 3) pk_nil)))) pss_nil)
      (pss_one (ps_if (pt_cmpA (o_eq hu) (pv 0) pe_int (nomark _)) (pss_one (ps_expr (pe_callK G_admitted (Room.mono hr (by decide)) T.n_admitted tk2 (pa_cons (pv 1) pa_nil) (pk_cons (pv 3) pk_nil)))) pss_nil)))))
      (L2N.HdsA.cons rfl rfl ⟨rfl, by decide, Or.inl T.c_BadMode⟩ (fun ea oe cls d pn hz hf => (pss_cons (ps_set (i := 5) sc__law_no_mode.nd rfl (Or.inl rfl) (pe_and (pe_callB (by exact call_isG (L2N.Zn.zc hz) hf) rfl T.b_isinstance (by decide +kernel) (pa_cons (pv 4) (pa_cons (pe_glob (v := .ref a.LinkError) rfl T.c_LinkError rfl) pa_nil))) (pe_one (pe_not (pe_callB (by exact call_isG (L2N.Zn.zc hz) hf) rfl T.b_isinstance (by decide +kernel) (pa_cons (pv 4) (pa_cons (pe_glob (v := .ref a.LogError) rfl T.c_LogError rfl) pa_nil)))))))
      (pss_one (ps_ret (pe_and (pv 5) (pe_and (pe_callB (call_isi) rfl T.b_isinstance (by decide +kernel) (pa_cons (by exact pe_xfG (L2N.Zn.zc hz) hf (pv 4)) (pa_cons (pe_bltn (v := .ty "str") rfl T.b_str (by decide +kernel) rfl) pa_nil))) (pe_one (pe_cmpR (o_eq hu) (by exact pe_xfG (L2N.Zn.zc hz) hf (pv 4)) (pv 3) (nomark _)))))))))
      (L2N.HdsA.conz ⟨rfl, by decide, Or.inl T.c_LinkError⟩ (fun ea oe cls d pn hz hf => (pss_one (ps_ret pe_bl)))
      L2N.HdsA.nil)))
      (pss_one (ps_ret pe_bl))), ?_⟩
  show (_ : Ends → L2.St → Hp → Prop) _ [some _, some _, some _, some _, none, none] _
  try dsimp only [L2H.cxH, cxOf]
  have ez : decide (z = z) = true := by simp
  rcases hway with rfl | rfl | rfl
  · walk_at "w"
    refine ⟨z, rfl, fun _ d H1 hd hd1 k1 => ?_, fun m hm e => absurd e (hz m hm)⟩
    refine w_asT T.t_BadMode_BadMode.2 (fun y hy => ?_)
    walk_at "w"
    rw [ez]
    exact k H1 k1
  · walk_at "w"
    refine ⟨rfl, rfl, x, l, r, f, n, o, s, z, rfl, hL, W, fun _ d H1 hd hd1 k1 => ?_, fun m hm e => absurd e (hz m hm)⟩
    refine w_asT T.t_BadMode_BadMode.2 (fun y hy => ?_)
    walk_at "w"
    rw [ez]
    exact k H1 k1
  · walk_at "w"
    refine ⟨rfl, rfl, x, l, r, f, n, s, z, rfl, hL, W, fun _ d H1 hd hd1 k1 => ?_, fun m hm e => absurd e (hz m hm)⟩
    refine w_asT T.t_BadMode_BadMode.2 (fun y hy => ?_)
    walk_at "w"
    rw [ez]
    exact k H1 k1
structure TI (a : AD) (H : Hp) (b q w l r f x xl xr xf p j0 j1 j2 j3 g : Addr) (n : Int) (s : St3) (us : List Int) : Prop where
  bx : Bx H b q
  bk : BkS H [b, q] w l r f n s
  lk : LkS a H x xl xr xf n s
  kd : Knd a H p j0 j1 j2 j3
  hg : H g = some (.lst (us.map V.int))
  wf : WFs n s
  ul : us.length ≤ 60
  hu : ∀ u ∈ us, 1 ≤ u ∧ u ≤ n
structure TS' (b q x xl xr xf p g : Addr) : Prop where
  sx : ∀ y ∈ [x, xl, xr, xf], y ∉ [b, q]
  sp : p ∉ [b, q]
  sg : g ∉ [b, q]
section
variable {a : AD} {H H' : Hp} {b q w l r f x xl xr xf p j0 j1 j2 j3 g : Addr} {n : Int} {s : St3} {us : List Int}
theorem TI.kp0 (I : TI a H b q w l r f x xl xr xf p j0 j1 j2 j3 g n s us) (k : Kp [] H H') : TI a H' b q w l r f x xl xr xf p j0 j1 j2 j3 g n s us :=
  ⟨I.bx.kp k, I.bk.kp0 k, I.lk.kp0 k, I.kd.kp0 k, k.at0 I.hg, I.wf, I.ul, I.hu⟩
theorem TI.kp (I : TI a H b q w l r f x xl xr xf p j0 j1 j2 j3 g n s us) (S : TS' b q x xl xr xf p g) (B : Bx H' b q) (k : Kp [b, q] H H') : TI a H' b q w l r f x xl xr xf p j0 j1 j2 j3 g n s us :=
  ⟨B, I.bk.kp k fun _ z => z, Lnk.kpS I.lk k S.sx, I.kd.kp k S.sp I.bx.lst, k g _ I.hg S.sg, I.wf, I.ul, I.hu⟩
end
theorem z_ok {n : Int} {s : St3} {o : Int} {z : Str} (h : WrongO n s o z) : PyData.strOk z = true := by
  rcases h with ⟨rfl, _⟩ | ⟨rfl, _⟩ <;> decide +kernel
theorem w4_at {i : Nat} (h : i < 4) : (["free", "saving", "guarded", "checked"] : List Str).getD i default = wordM i := by
  have : i = 0 ∨ i = 1 ∨ i = 2 ∨ i = 3 := by omega
  rcases this with rfl | rfl | rfl | rfl <;> rfl
def sp__law_turn (a : AD) : Sp := fun vs H Q _ => ∃ (b q w l r f x xl xr xf p j0 j1 j2 j3 g : Addr) (n : Int) (s : St3) (us : List Int), vs = [.ref b, .ref w, .ref x, .ref p, .ref g] ∧ TI a H b q w l r f x xl xr xf p j0 j1 j2 j3 g n s us ∧ TS' b q x xl xr xf p g ∧ ∀ H', Bx H' b q → Kp [b, q] H H' → Q (.bl true) H'
theorem sc__law_turn : FnScope ["_law_purse_here", "_law_book", "_law_held", "_law_kinds_here", "_law_nodes", "_law_words_here", "_law_some", "_law_word", "_law_wrong_here", "_law_pick", "_law_text_here", "_law_way", "_law_node", "_law_told"] ["_law_purse_here", "_law_book", "_law_held", "_law_kinds_here", "_law_nodes"] (defScope s__law_turn) := ⟨rfl, rfl, rfl, by decide +kernel, rfl, by decide +kernel, by decide +kernel⟩
theorem ok__law_turn {P : Program} {w : World} {K : PySem.W.Frag} {mg : Str → Option Value} {base : Heap} {a : AD} (T : Txt P K mg a) (G__law_words : FnA P w K mg base 2 a.f__law_words [] (sp__law_words a)) (G__law_asked : FnA P w K mg base 11 a.f__law_asked ["_law_book", "_law_held", "_law_kinds_here", "_law_nodes"] (sp__law_asked a)) (G__law_take : FnA P w K mg base 2 a.f__law_take ["_law_purse_here", "_law_many"] (sp__law_take a)) (G__law_listed : FnA P w K mg base 11 a.f__law_listed ["_law_book", "_law_held", "_law_word"] (sp__law_listed a)) (G__law_wrong : FnA P w K mg base 3 a.f__law_wrong ["_law_purse_here", "_law_book"] (sp__law_wrong a)) (G__law_refused : FnA P w K mg base 10 a.f__law_refused ["_law_kind", "_law_held", "_law_operation_here"] (sp__law_refused a)) (G__law_barred : FnA P w K mg base 11 a.f__law_barred ["_law_held", "_law_operation_here", "_law_word"] (sp__law_barred a)) (G__law_text : FnA P w K mg base 3 a.f__law_text ["_law_purse_here"] (sp__law_text a)) (G__law_no_mode : FnA P w K mg base 11 a.f__law_no_mode ["_law_way", "_law_held", "_law_operation_here", "_law_wrong_here"] (sp__law_no_mode a)) (G__law_operation : FnA P w K mg base 2 a.f__law_operation ["_law_book", "_law_node"] (sp__law_operation a)) (G_Links_dump : FnA P w K mg base 3 a.f_Links_dump ["self"] (sp_Links_dump a)) (G__law_dump : FnA P w K mg base 2 a.f__law_dump ["_law_book"] (sp__law_dump a)) : FnA P w K mg base 12 a.f__law_turn ["_law_purse_here", "_law_book", "_law_held", "_law_kinds_here", "_law_nodes"] (sp__law_turn a) := by
  obtain ⟨fd, F, b⟩ := T.F__law_turn
  refine FnA.of F sc__law_turn b (fun vs H Q E h => by first | (obtain ⟨rfl, _⟩ := h; rfl) | (obtain ⟨_, rfl, _⟩ := h; rfl) | (obtain ⟨_, _, rfl, _⟩ := h; rfl) | (obtain ⟨_, _, _, rfl, _⟩ := h; rfl) | (obtain ⟨_, _, _, _, rfl, _⟩ := h; rfl) | (obtain ⟨_, _, _, _, _, rfl, _⟩ := h; rfl) | (obtain ⟨_, _, _, _, _, _, rfl, _⟩ := h; rfl) | (obtain ⟨_, _, _, _, _, _, _, rfl, _⟩ := h; rfl) | (obtain ⟨_, _, _, _, _, _, _, _, rfl, _⟩ := h; rfl) | (obtain ⟨_, _, _, _, _, _, _, _, _, rfl, _⟩ := h; rfl) | (obtain ⟨_, _, _, _, _, _, _, _, _, _, rfl, _⟩ := h; rfl) | (obtain ⟨_, _, _, _, _, _, _, _, _, _, _, rfl, _⟩ := h; rfl) | (obtain ⟨_, _, _, _, _, _, _, _, _, _, _, _, rfl, _⟩ := h; rfl) | (obtain ⟨_, _, _, _, _, _, _, _, _, _, _, _, _, rfl, _⟩ := h; rfl) | (obtain ⟨_, _, _, _, _, _, _, _, _, _, _, _, _, _, rfl, _⟩ := h; rfl) | (obtain ⟨_, _, _, _, _, _, _, _, _, _, _, _, _, _, _, rfl, _⟩ := h; rfl) | (obtain ⟨_, _, _, _, _, _, _, _, _, _, _, _, _, _, _, _, rfl, _⟩ := h; rfl) | (obtain ⟨_, _, _, _, _, _, _, _, _, _, _, _, _, _, _, _, _, rfl, _⟩ := h; rfl) | (obtain ⟨_, _, _, _, _, _, _, _, _, _, _, _, _, _, _, _, _, _, rfl, _⟩ := h; rfl) | (obtain ⟨_, _, _, _, _, _, _, _, _, _, _, _, _, _, _, _, _, _, _, rfl, _⟩ := h; rfl) | (obtain ⟨_, _, _, _, _, _, _, _, _, _, _, _, _, _, _, _, _, _, _, _, rfl, _⟩ := h; rfl) | (obtain ⟨_, _, _, _, _, _, _, _, _, _, _, _, _, _, _, _, _, _, _, _, _, rfl, _⟩ := h; rfl) | (obtain ⟨_, _, _, _, _, _, _, _, _, _, _, _, _, _, _, _, _, _, _, _, _, _, rfl, _⟩ := h; rfl) | (obtain ⟨_, _, _, _, _, _, _, _, _, _, _, _, _, _, _, _, _, _, _, _, _, _, _, rfl, _⟩ := h; rfl)) (fun cdv A outer s H vs Q E hr tk pz h => ?_)
  have hu := hr.units
  have hrH := L2H.roomH_of hr
  obtain ⟨b, q, w, l, r, f, x, xl, xr, xf, p, j0, j1, j2, j3, g, n, s, us, rfl, I, S, k⟩ := h
  refine ⟨_, (pss_cons (ps_set (i := 5) sc__law_turn.nd rfl (Or.inl rfl) (pe_callA0 G__law_words (Room.mono hr (by decide)) T.n__law_words tk))
      (pss_cons (ps_if (pt_not (pt_tru (pe_callA G__law_asked (Room.mono hr (by decide)) T.n__law_asked tk (pa_cons (pv 1) (pa_cons (pv 2) (pa_cons (pv 3) (pa_cons (pv 4) pa_nil))))))) (pss_one (ps_ret pe_bl)) pss_nil)
      (pss_cons (ps_set (i := 6) sc__law_turn.nd rfl (Or.inl rfl) (pv 5))
      (pss_cut (ps_if (pt_cmpA op_gt (pe_ix ix_seq (pv 1) pe_int (fun _ _ => rfl)) pe_int (nomark _)) (pss_one (ps_set (i := 6) sc__law_turn.nd rfl (Or.inl rfl) (pe_lst (pa_cons (pe_ix ix_seq (pv 5) (pe_callA G__law_take (Room.mono hr (by decide)) T.n__law_take tk (pa_cons (pv 0) (pa_cons pe_int pa_nil))) (fun _ _ => rfl)) pa_nil)))) pss_nil)
      (pss_cons (ps_for pz rfl (pi_list (pv 6)) (pg_name (i := 7) sc__law_turn.nd rfl (Or.inl rfl))
      (pss_one (ps_if (pt_not (pt_tru (pe_callA G__law_listed (Room.mono hr (by decide)) T.n__law_listed tk (pa_cons (pv 1) (pa_cons (pv 2) (pa_cons (pv 7) pa_nil)))))) (pss_one (ps_ret pe_bl)) pss_nil)))
      (pss_cons (ps_set (i := 8) sc__law_turn.nd rfl (Or.inl rfl) (pe_callA G__law_wrong (Room.mono hr (by decide)) T.n__law_wrong tk (pa_cons (pv 0) (pa_cons (pv 1) pa_nil))))
      (pss_cons (ps_set (i := 9) sc__law_turn.nd rfl (Or.inl rfl) (pe_callA G__law_take (Room.mono hr (by decide)) T.n__law_take tk (pa_cons (pv 0) (pa_cons pe_int pa_nil))))
      (pss_cons (ps_if (pt_cmpA (o_ne hu) (pe_callA G__law_refused (Room.mono hr (by decide)) T.n__law_refused tk (pa_cons (pe_ix ix_seq (pv 3) (pv 9) (fun _ _ => rfl)) (pa_cons (pv 2) (pa_cons (pe_ix ix_seq (pv 8) pe_int (fun _ _ => rfl)) pa_nil)))) (pe_tup (pa_cons (pe_ix ix_seq (pv 8) pe_int (fun _ _ => rfl)) (pa_cons pe_bl pa_nil))) (nomark _)) (pss_one (ps_ret pe_bl)) pss_nil)
      (pss_cons (ps_if (pt_cmpA (o_ne hu) (pe_callA G__law_barred (Room.mono hr (by decide)) T.n__law_barred tk (pa_cons (pv 2) (pa_cons (pe_ix ix_seq (pv 8) pe_int (fun _ _ => rfl)) (pa_cons (pe_ix ix_seq (pv 5) (pv 9) (fun _ _ => rfl)) pa_nil)))) (pe_tup (pa_cons (pe_ix ix_seq (pv 8) pe_int (fun _ _ => rfl)) (pa_cons pe_bl pa_nil))) (nomark _)) (pss_one (ps_ret pe_bl)) pss_nil)
      (pss_cons (ps_set (i := 10) sc__law_turn.nd rfl (Or.inl rfl) (pe_callA G__law_text (Room.mono hr (by decide)) T.n__law_text tk (pa_cons (pv 0) pa_nil)))
      (pss_cons (ps_for pz rfl (pi_range1 rfl T.b_range (pa_cons pe_int pa_nil)) (pg_name (i := 11) sc__law_turn.nd rfl (Or.inl rfl))
      (pss_one (ps_if (pt_not (pt_tru (pe_callA G__law_no_mode (Room.mono hr (by decide)) T.n__law_no_mode tk (pa_cons (pv 11) (pa_cons (pv 2) (pa_cons (pe_ix ix_seq (pv 8) pe_int (fun _ _ => rfl)) (pa_cons (pv 10) pa_nil))))))) (pss_one (ps_ret pe_bl)) pss_nil)))
      (pss_cons (ps_for pz rfl (pi_list (pe_slice sl_any (pv 4) po_none (po_some pe_int))) (pg_name (i := 12) sc__law_turn.nd rfl (Or.inl rfl))
      (pss_one (ps_if (pt_not (pt_tru (pe_callA G__law_no_mode (Room.mono hr (by decide)) T.n__law_no_mode tk (pa_cons pe_int (pa_cons (pv 2) (pa_cons (pe_callA G__law_operation (Room.mono hr (by decide)) T.n__law_operation tk (pa_cons (pv 1) (pa_cons (pv 12) pa_nil))) (pa_cons (pv 10) pa_nil))))))) (pss_one (ps_ret pe_bl)) pss_nil)))
      (pss_cons (ps_set (i := 13) sc__law_turn.nd rfl (Or.inl rfl) (pe_methS0 (pl := _) G_Links_dump (Room.mono hr (by decide)) T.cl_Links T.me_Links_dump tk (pv 2)))
      (pss_one (ps_ret (pe_and (pe_callB (call_isi) rfl T.b_isinstance (by decide +kernel) (pa_cons (pv 13) (pa_cons (pe_bltn (v := .ty "str") rfl T.b_str (by decide +kernel) rfl) pa_nil))) (pe_one (pe_cmpR (o_eq hu) (pv 13) (pe_callA G__law_dump (Room.mono hr (by decide)) T.n__law_dump tk (pa_cons (pv 1) pa_nil)) (nomark _))))))))))))))))))), ?_⟩
  show (_ : Ends → L2.St → Hp → Prop) _ [some _, some _, some _, some _, some _, none, none, none, none, none, none, none, none, none] _
  try dsimp only [L2H.cxH, cxOf]
  have W := I.wf
  have n0 := WF.n0 W
  have n1 := WF.n1 W
  walk_at "w"
  refine ⟨rfl, fun ws H1 hws hws1 k1 => ?_⟩
  have I1 := I.kp0 k1
  have wB : ws ∉ [b, q] := I.bx.off hws
  have hw1 := I1.bk.1.1
  clear I hws
  walk_at "w"
  refine ⟨w, x, xl, xr, xf, p, j0, j1, j2, j3, g, n, s, us, rfl, I1.bk.1.x, I1.lk, W, I1.kd, I1.hg, I1.ul, I1.hu, fun H2 k2 => ?_⟩
  have I2 := I1.kp0 k2
  have hws2 := k2.at0 hws1
  have k02 : Kp [b, q] H H2 := (k1.trans k2).mono (by simp)
  have hw2 := I2.bk.1.1
  clear I1 hws1 k1 k2 hw1
  walk_at "w"
  refine s_cut (fun σ' H' => (∃ (sm : Addr) (ss : List Str), σ' = [some (.ref b), some (.ref w), some (.ref x), some (.ref p), some (.ref g), some (.ref ws), some (.ref sm), none, none, none, none, none, none, none] ∧ H' sm = some (.lst (ss.map V.str)) ∧ ∀ z ∈ ss, ∃ m : Nat, m ≤ 3 ∧ z = wordM m) ∧ TI a H' b q w l r f x xl xr xf p j0 j1 j2 j3 g n s us ∧ H' ws = some (.lst ((["free", "saving", "guarded", "checked"] : List Str).map V.str)) ∧ Kp [b, q] H H') ?_ ?_
  · walk_at "w"
    refine w_ite (fun c => ?_) (fun c => ?_)
    · walk_at "w"
      refine ⟨b, q, 4, rfl, I2.bx, by omega, by omega, fun d H3 d0 d1 B3 k3 => ?_⟩
      have hws3 := k3 ws _ hws2 wB
      have ew := w4_at (i := d.toNat) (by omega)
      have sl : (["free", "saving", "guarded", "checked"] : List Str).length = 4 := rfl
      generalize hwl : (["free", "saving", "guarded", "checked"] : List Str) = wl at hws2 hws3 ew sl ⊢
      walk_at "w"
      rw [ew]
      intro sm hsm
      have e : HO.lst [V.str (wordM d.toNat)] = .lst (([wordM d.toNat] : List Str).map V.str) := rfl
      rw [e]
      have ks := Kp.refl.new (ms := []) (o := .lst (([wordM d.toNat] : List Str).map V.str)) hsm
      have hsm4 : upd H3 sm (.lst (([wordM d.toNat] : List Str).map V.str)) sm = some (.lst (([wordM d.toNat] : List Str).map V.str)) := upd_same
      have I4 := (I2.kp S B3 k3).kp0 ks
      have hws4 := ks.at0 hws3
      have k04 := (k02.trans k3).trans0 ks
      generalize upd H3 sm (.lst (([wordM d.toNat] : List Str).map V.str)) = H4 at hsm4 I4 hws4 k04 ⊢
      walk_at "w"
      exact ⟨⟨sm, _, rfl, hsm4, fun z hz => ⟨d.toNat, by omega, List.mem_singleton.mp hz⟩⟩, I4, hws4, k04⟩
    · walk_at "w"
      exact ⟨⟨ws, _, rfl, hws2, fun z hz => word_mem.mp hz⟩, I2, hws2, k02⟩
  clear I2 hws2 k02 hw2
  rintro σ' H3 ⟨⟨sm, ss, rfl, hsm3, hss⟩, I3, hws3, k3⟩
  walk_at "w"
  refine w_forM (us := ss) (f := V.str) (p := sm) hsm3 (fun i σ' H' => (∃ z7 : Option V, σ' = [some (.ref b), some (.ref w), some (.ref x), some (.ref p), some (.ref g), some (.ref ws), some (.ref sm), z7, none, none, none, none, none, none]) ∧ Kp [] H3 H') ⟨⟨_, rfl⟩, Kp.refl⟩ (fun i σ' H' _ h => h.2.at0 hsm3) ?_ ?_
  · rintro i z σ' H4 hu ⟨⟨z7, rfl⟩, k4⟩
    obtain ⟨m, hm, rfl⟩ := hss z (List.mem_of_getElem? hu)
    have I4 := I3.kp0 k4
    walk_at "w"
    refine ⟨w, x, xl, xr, xf, n, s, m, rfl, hm, I4.bk.1.x, I4.lk, W, fun H5 k5 => ?_⟩
    walk_at "w"
    exact ⟨⟨_, rfl⟩, k4.trans k5⟩
  rintro σ' H4 ⟨⟨z7, rfl⟩, k4⟩
  have I4 := I3.kp0 k4
  have hws4 := k4.at0 hws3
  have k04 := k3.trans0 k4
  clear I3 hws3 k3 k4 hsm3
  walk_at "w"
  refine ⟨b, q, w, l, r, f, n, s, rfl, I4.bx, I4.bk, W, fun t o z H5 ht hz ht5 B5 k5 => ?_⟩
  have I5 := I4.kp S B5 k5
  have hws5 := k5 ws _ hws4 wB
  have tB : t ∉ [b, q] := I4.bx.off ht
  have k05 := k04.trans k5
  clear I4 hws4 k04 k5 B5
  walk_at "w"
  refine ⟨b, q, 4, rfl, I5.bx, by omega, by omega, fun pk H6 p0 p1 B6 k6 => ?_⟩
  have I6 := I5.kp S B6 k6
  have hws6 := k6 ws _ hws5 wB
  have ht6 := k6 t _ ht5 tB
  have k06 := k05.trans k6
  clear I5 hws5 k05 k6 B6 ht5
  have ew := w4_at (i := pk.toNat) (by omega)
  have sl : (["free", "saving", "guarded", "checked"] : List Str).length = 4 := rfl
  generalize (["free", "saving", "guarded", "checked"] : List Str) = wl at hws6 ew sl
  have zo := z_ok hz
  have okR : ([V.str z, .bl true]).all okV = true := by simp [okV, zo]
  have judge : ∃ jj dd, ([V.ref j0, .ref j1, .ref j2, .ref j3])[pk.toNat]? = some (.ref jj) ∧ H6 jj = some (.ins (clsM a pk.toNat) dd []) := by
    obtain ⟨hp4, ⟨e0, h0⟩, ⟨e1, h1⟩, ⟨e2, h2⟩, e3, h3⟩ := I6.kd
    have : pk = 0 ∨ pk = 1 ∨ pk = 2 ∨ pk = 3 := by omega
    rcases this with rfl | rfl | rfl | rfl
    · exact ⟨_, _, rfl, h0⟩
    · exact ⟨_, _, rfl, h1⟩
    · exact ⟨_, _, rfl, h2⟩
    · exact ⟨_, _, rfl, h3⟩
  obtain ⟨jj, dd, hj1, hj2⟩ := judge
  have hkd := I6.kd.1
  walk_at "w"
  refine ⟨jj, dd, x, xl, xr, xf, n, o, s, pk.toNat, z, rfl, by omega, hj2, I6.lk, W, hz, fun t2 H7 ht2 ht27 k7 => ?_⟩
  have ht7 := k7.at0 ht6
  walk_at "w"
  intro t3 ht3
  have kt := Kp.refl.new (ms := []) (o := .tup [V.str z, .bl true]) ht3
  refine w_neT (kt.at0 ht27) upd_same (flat_row okR) (shaped_row okR) ?_
  have I8 := (I6.kp0 k7).kp0 kt
  have hws8 := kt.at0 (k7.at0 hws6)
  have ht8 := kt.at0 ht7
  have k08 := (k06.trans0 k7).trans0 kt
  generalize upd H7 t3 (.tup [V.str z, .bl true]) = H8 at I8 hws8 ht8 k08 ⊢
  clear I6 hws6 ht6 k06 k7 kt ht3 ht7 ht27 ht2 hkd hj1 hj2
  walk_at "w"
  rw [ew]
  refine ⟨x, xl, xr, xf, n, o, s, pk.toNat, z, rfl, by omega, I8.lk, W, hz, fun t2 H9 ht2 ht29 k9 => ?_⟩
  have ht9 := k9.at0 ht8
  walk_at "w"
  intro t3 ht3
  have kt := Kp.refl.new (ms := []) (o := .tup [V.str z, .bl true]) ht3
  refine w_neT (kt.at0 ht29) upd_same (flat_row okR) (shaped_row okR) ?_
  have I10 := (I8.kp0 k9).kp0 kt
  have ht10 := kt.at0 ht9
  have k010 := (k08.trans0 k9).trans0 kt
  generalize upd H9 t3 (.tup [V.str z, .bl true]) = H10 at I10 ht10 k010 ⊢
  clear I8 hws8 ht8 k08 k9 kt ht3 ht9 ht29 ht2
  walk_at "w"
  refine ⟨b, q, rfl, I10.bx, fun tx H11 hno B11 k11 => ?_⟩
  have I11 := I10.kp S B11 k11
  have ht11 := k11 t _ ht10 tB
  have k011 := k010.trans k11
  clear I10 ht10 k010 k11 B11
  walk_at "w"
  refine w_rng1 (n := 3) (by omega) (by omega) (fun i σ' H' => (∃ z11 : Option V, σ' = [some (.ref b), some (.ref w), some (.ref x), some (.ref p), some (.ref g), some (.ref ws), some (.ref sm), z7, some (.ref t), some (.int pk), some (.str tx), z11, none, none]) ∧ Kp [] H11 H') ⟨⟨_, rfl⟩, Kp.refl⟩ ?_ ?_
  · rintro i σ' H12 hi ⟨⟨z11, rfl⟩, k12⟩
    have I12 := I11.kp0 k12
    have ht12 := k12.at0 ht11
    walk_at "w"
    refine ⟨x, xl, xr, xf, _, n, o, s, tx, rfl, by omega, I12.lk, W, hno, fun H13 k13 => ?_⟩
    walk_at "w"
    exact ⟨⟨_, rfl⟩, k12.trans k13⟩
  rintro σ' H12 ⟨⟨z11, rfl⟩, k12⟩
  have I12 := I11.kp0 k12
  have k012 := k011.trans0 k12
  have hg12 := I12.hg
  clear I11 ht11 k011 k12
  walk_at "w"
  intro g2 hg2
  have kg := Kp.refl.new (ms := []) (o := .lst ((cut us none (some 1)).map V.int)) hg2
  have hg213 : upd H12 g2 (.lst ((cut us none (some 1)).map V.int)) g2 = some (.lst ((cut us none (some 1)).map V.int)) := upd_same
  have I13 := I12.kp0 kg
  have k013 := k012.trans0 kg
  have hc : ∀ u ∈ cut us none (some 1), 1 ≤ u ∧ u ≤ n := fun u hu => I13.hu u (by
    unfold cut at hu
    exact List.mem_of_mem_drop (List.mem_of_mem_take hu))
  generalize upd H12 g2 (.lst ((cut us none (some 1)).map V.int)) = H13 at hg213 I13 k013 ⊢
  generalize cut us none (some 1) = vs' at hg213 hc
  clear I12 k012 kg hg2 hg12
  walk_at "w"
  refine w_forM (us := vs') (f := V.int) (p := g2) hg213 (fun i σ' H' => (∃ z12 : Option V, σ' = [some (.ref b), some (.ref w), some (.ref x), some (.ref p), some (.ref g), some (.ref ws), some (.ref sm), z7, some (.ref t), some (.int pk), some (.str tx), z11, z12, none]) ∧ Kp [] H13 H') ⟨⟨_, rfl⟩, Kp.refl⟩ (fun i σ' H' _ h => h.2.at0 hg213) ?_ ?_
  · rintro i u σ' H14 hu ⟨⟨z12, rfl⟩, k14⟩
    obtain ⟨u1, u2⟩ := hc u (List.mem_of_getElem? hu)
    have I14 := I13.kp0 k14
    walk_at "w"
    refine ⟨w, n, u, s, rfl, I14.bk.1.x, W, u1, u2, ?_⟩
    walk_at "w"
    refine ⟨x, xl, xr, xf, 1, n, _, s, tx, rfl, by omega, I14.lk, W, hno, fun H15 k15 => ?_⟩
    walk_at "w"
    exact ⟨⟨_, rfl⟩, k14.trans k15⟩
  rintro σ' H14 ⟨⟨z12, rfl⟩, k14⟩
  have I14 := I13.kp0 k14
  have k014 := k013.trans0 k14
  have hx14 := I14.lk.1.choose_spec
  clear I13 k013 k14 hg213
  walk_at "w"
  refine ⟨x, xl, xr, xf, n, _, _, _, rfl, I14.lk, W, fun H15 k15 => ?_⟩
  have I15 := I14.kp0 k15
  walk_at "w"
  refine ⟨w, n, s, rfl, I15.bk.1.x, W, fun H16 k16 => ?_⟩
  have I16 := I15.kp0 k16
  walk_at "w"
  rw [show decide (textOf n s.1 s.2.1 s.2.2 = textOf n s.1 s.2.1 s.2.2) = true by simp]
  exact k H16 I16.bx ((k014.trans0 k15).trans0 k16)
theorem rg_mem {a b u : Int} (h : u ∈ rgI a b) : a ≤ u ∧ u < b := by
  unfold rgI at h
  obtain ⟨i, hi, rfl⟩ := List.mem_map.mp h
  have := List.mem_range.mp hi
  omega
theorem rg_len (a b : Int) : (rgI a b).length = (b - a).toNat := by unfold rgI; simp
theorem kpx {ms : List Addr} {H H1 H2 : Hp} {xl xr xf : Addr} (k1 : Kp ms H H1) (h1 : H xl = none) (h2 : H xr = none) (h3 : H xf = none) (k2 : Kp [xl, xr, xf] H1 H2) : Kp ms H H2 := fun y o e z => k2 y o (k1 y o e z) fun q => by
  simp only [List.mem_cons, List.mem_nil_iff, or_false] at q
  rcases q with rfl | rfl | rfl
  · rw [h1] at e; cases e
  · rw [h2] at e; cases e
  · rw [h3] at e; cases e
theorem sep1 {H : Hp} {y xl xr xf : Addr} (h : ∃ o, H y = some o) (h1 : H xl = none) (h2 : H xr = none) (h3 : H xf = none) : y ∉ [xl, xr, xf] := fun q => by
  obtain ⟨o, e⟩ := h
  simp only [List.mem_cons, List.mem_nil_iff, or_false] at q
  rcases q with rfl | rfl | rfl
  · rw [h1] at e; cases e
  · rw [h2] at e; cases e
  · rw [h3] at e; cases e
theorem TI.ap {a : AD} {H H' : Hp} {b q w l r f x xl xr xf p j0 j1 j2 j3 g : Addr} {n : Int} {s t : St3} {us : List Int} (I : TI a H b q w l r f x xl xr xf p j0 j1 j2 j3 g n s us) (h : LkS a H' x xl xr xf n t) (hw : ∀ y ∈ [w, l, r, f], y ∉ [xl, xr, xf]) (hp : p ∉ [xl, xr, xf]) (hg : g ∉ [xl, xr, xf]) (hb : ∀ y ∈ [b, q], y ∉ [xl, xr, xf]) (k : Kp [xl, xr, xf] H H') :
    Bx H' b q ∧ BkS H' [b, q] w l r f n s ∧ Knd a H' p j0 j1 j2 j3 ∧ H' g = some (.lst (us.map V.int)) := by
  have l3 : ∀ y ∈ [xl, xr, xf], ∃ vs, H y = some (.lst vs) := fun y hy => by
    obtain ⟨_, y1, y2, y3, _⟩ := I.lk
    simp only [List.mem_cons, List.mem_nil_iff, or_false] at hy
    rcases hy with rfl | rfl | rfl
    · exact ⟨_, y1⟩
    · exact ⟨_, y2⟩
    · exact ⟨_, y3⟩
  exact ⟨I.bx.kpm k hb, ⟨Wd.kpS I.bk.1 k hw, I.bk.2⟩, I.kd.kp k hp l3, k g _ I.hg hg⟩
def sp__law_led (a : AD) : Sp := fun vs H Q _ => ∃ (b q p j0 j1 j2 j3 : Addr) (c : Bool), vs = [.ref b, .bl c, .ref p] ∧ Bx H b q ∧ Knd a H p j0 j1 j2 j3 ∧ p ∉ [b, q] ∧ ∀ H', Bx H' b q → Kp [b, q] H H' → Q (.bl true) H'
theorem sc__law_led : FnScope ["_law_purse_here", "_law_reached", "_law_kinds_here", "_law_wide", "_law_size", "_law_shift", "_law_nodes", "_law_word", "_law_made", "_law_book", "_law_held", "_law_operation_here", "_law_turn_here", "_law_node"] ["_law_purse_here", "_law_reached", "_law_kinds_here"] (defScope s__law_led) := ⟨rfl, rfl, rfl, by decide +kernel, rfl, by decide +kernel, by decide +kernel⟩
theorem ok__law_led {P : Program} {w : World} {K : PySem.W.Frag} {mg : Str → Option Value} {base : Heap} {a : AD} (T : Txt P K mg a) (G__law_take : FnA P w K mg base 2 a.f__law_take ["_law_purse_here", "_law_many"] (sp__law_take a)) (G__law_words : FnA P w K mg base 2 a.f__law_words [] (sp__law_words a)) (G__law_run : FnA P w K mg base 4 a.f__law_run ["_law_purse_here", "_law_book", "_law_shift", "_law_many", "_law_word"] (sp__law_run a)) (G__law_whole : FnA P w K mg base 2 a.f__law_whole ["_law_size"] (sp__law_whole a)) (G_Links___init__ : FnA P w K mg base 3 a.f_Links___init__ ["self", "size"] (sp_Links___init__ a)) (G_Links_apply : FnA P w K mg base 4 a.f_Links_apply ["self", "operation"] (sp_Links_apply a)) (G__law_any : FnA P w K mg base 3 a.f__law_any ["_law_purse_here", "_law_size"] (sp__law_any a)) (G_Links_read : FnA P w K mg base 6 a.f_Links_read ["text"] (sp_Links_read a)) (G__law_dump : FnA P w K mg base 2 a.f__law_dump ["_law_book"] (sp__law_dump a)) (G__law_turn : FnA P w K mg base 12 a.f__law_turn ["_law_purse_here", "_law_book", "_law_held", "_law_kinds_here", "_law_nodes"] (sp__law_turn a)) (G__law_operation : FnA P w K mg base 2 a.f__law_operation ["_law_book", "_law_node"] (sp__law_operation a)) (G__law_moved : FnA P w K mg base 2 a.f__law_moved ["_law_book", "_law_node"] (sp__law_moved a)) : FnA P w K mg base 13 a.f__law_led ["_law_purse_here", "_law_reached", "_law_kinds_here"] (sp__law_led a) := by
  obtain ⟨fd, F, b⟩ := T.F__law_led
  refine FnA.of F sc__law_led b (fun vs H Q E h => by first | (obtain ⟨rfl, _⟩ := h; rfl) | (obtain ⟨_, rfl, _⟩ := h; rfl) | (obtain ⟨_, _, rfl, _⟩ := h; rfl) | (obtain ⟨_, _, _, rfl, _⟩ := h; rfl) | (obtain ⟨_, _, _, _, rfl, _⟩ := h; rfl) | (obtain ⟨_, _, _, _, _, rfl, _⟩ := h; rfl) | (obtain ⟨_, _, _, _, _, _, rfl, _⟩ := h; rfl) | (obtain ⟨_, _, _, _, _, _, _, rfl, _⟩ := h; rfl) | (obtain ⟨_, _, _, _, _, _, _, _, rfl, _⟩ := h; rfl) | (obtain ⟨_, _, _, _, _, _, _, _, _, rfl, _⟩ := h; rfl) | (obtain ⟨_, _, _, _, _, _, _, _, _, _, rfl, _⟩ := h; rfl) | (obtain ⟨_, _, _, _, _, _, _, _, _, _, _, rfl, _⟩ := h; rfl) | (obtain ⟨_, _, _, _, _, _, _, _, _, _, _, _, rfl, _⟩ := h; rfl) | (obtain ⟨_, _, _, _, _, _, _, _, _, _, _, _, _, rfl, _⟩ := h; rfl) | (obtain ⟨_, _, _, _, _, _, _, _, _, _, _, _, _, _, rfl, _⟩ := h; rfl) | (obtain ⟨_, _, _, _, _, _, _, _, _, _, _, _, _, _, _, rfl, _⟩ := h; rfl) | (obtain ⟨_, _, _, _, _, _, _, _, _, _, _, _, _, _, _, _, rfl, _⟩ := h; rfl) | (obtain ⟨_, _, _, _, _, _, _, _, _, _, _, _, _, _, _, _, _, rfl, _⟩ := h; rfl) | (obtain ⟨_, _, _, _, _, _, _, _, _, _, _, _, _, _, _, _, _, _, rfl, _⟩ := h; rfl) | (obtain ⟨_, _, _, _, _, _, _, _, _, _, _, _, _, _, _, _, _, _, _, rfl, _⟩ := h; rfl) | (obtain ⟨_, _, _, _, _, _, _, _, _, _, _, _, _, _, _, _, _, _, _, _, rfl, _⟩ := h; rfl) | (obtain ⟨_, _, _, _, _, _, _, _, _, _, _, _, _, _, _, _, _, _, _, _, _, rfl, _⟩ := h; rfl) | (obtain ⟨_, _, _, _, _, _, _, _, _, _, _, _, _, _, _, _, _, _, _, _, _, _, rfl, _⟩ := h; rfl) | (obtain ⟨_, _, _, _, _, _, _, _, _, _, _, _, _, _, _, _, _, _, _, _, _, _, _, rfl, _⟩ := h; rfl)) (fun cdv A outer s H vs Q E hr tk pz h => ?_)
  have hu := hr.units
  have hrH := L2H.roomH_of hr
  obtain ⟨b, q, p, j0, j1, j2, j3, c, rfl, B, hN, sp, k⟩ := h
  refine ⟨_, (pss_cons (ps_set (i := 3) sc__law_led.nd rfl (Or.inl rfl) (pe_cmpR (o_eq hu) (pe_callA G__law_take (Room.mono hr (by decide)) T.n__law_take tk (pa_cons (pv 0) (pa_cons pe_int pa_nil))) pe_int (nomark _)))
      (pss_cons (ps_set (i := 4) sc__law_led.nd rfl (Or.inl rfl) (pe_callA G__law_take (Room.mono hr (by decide)) T.n__law_take tk (pa_cons (pv 0) (pa_cons pe_int pa_nil))))
      (pss_cut (ps_if (pt_tru (pv 3)) (pss_one (ps_set (i := 4) sc__law_led.nd rfl (Or.inl rfl) (pe_op o_add pe_int (pe_callA G__law_take (Room.mono hr (by decide)) T.n__law_take tk (pa_cons (pv 0) (pa_cons pe_int pa_nil)))))) pss_nil)
      (pss_cons (ps_set (i := 5) sc__law_led.nd rfl (Or.inl rfl) (pe_callA G__law_take (Room.mono hr (by decide)) T.n__law_take tk (pa_cons (pv 0) (pa_cons (pe_callB (b_max2 rfl) rfl T.b_max (by decide +kernel) (pa_cons pe_int (pa_cons (pe_op op_sub (pv 4) pe_int) pa_nil))) pa_nil))))
      (pss_cons (ps_set (i := 6) sc__law_led.nd rfl (Or.inl rfl) (pe_listRg rfl rfl T.b_list (prg_2 rfl T.b_range (pe_op o_add pe_int (pv 5)) (pe_op o_add (pe_op o_add pe_int (pv 5)) (pe_callB (b_min2 rfl) rfl T.b_min (by decide +kernel) (pa_cons (pv 4) (pa_cons pe_int pa_nil)))))))
      (pss_cut (ps_if (pt_tru (pv 1)) (pss_cons (ps_set (i := 7) sc__law_led.nd rfl (Or.inl rfl) (pe_ix ix_seq (pe_callA0 G__law_words (Room.mono hr (by decide)) T.n__law_words tk) (pe_callA G__law_take (Room.mono hr (by decide)) T.n__law_take tk (pa_cons (pv 0) (pa_cons pe_int pa_nil))) (fun _ _ => rfl)))
      (pss_cons (ps_set (i := 8) sc__law_led.nd rfl (Or.inl rfl) (pe_callA G__law_run (Room.mono hr (by decide)) T.n__law_run tk (pa_cons (pv 0) (pa_cons (pe_callA G__law_whole (Room.mono hr (by decide)) T.n__law_whole tk (pa_cons (pv 4) pa_nil)) (pa_cons (pv 5) (pa_cons (pe_callA G__law_take (Room.mono hr (by decide)) T.n__law_take tk (pa_cons (pv 0) (pa_cons pe_int pa_nil))) (pa_cons (pv 7) pa_nil)))))))
      (pss_cons (ps_set (i := 9) sc__law_led.nd rfl (Or.inl rfl) (pe_ix ix_seq (pv 8) pe_int (fun _ _ => rfl)))
      (pss_cons (ps_set (i := 10) sc__law_led.nd rfl (Or.inl rfl) (pe_makeS G_Links___init__ T.mk_Links (Room.mono hr (by decide)) T.c_Links tk (pa_cons (pv 4) pa_nil)))
      (pss_one (ps_for pz rfl (pi_list (pe_ix ix_seq (pv 8) pe_int (fun _ _ => rfl))) (pg_name (i := 11) sc__law_led.nd rfl (Or.inl rfl))
      (pss_one (ps_expr (pe_methS (pl := _) G_Links_apply (Room.mono hr (by decide)) T.cl_Links T.me_Links_apply tk (pv 10) (pa_cons (pv 11) pa_nil)))))))))) (pss_cons (ps_set (i := 9) sc__law_led.nd rfl (Or.inl rfl) (pe_callA G__law_any (Room.mono hr (by decide)) T.n__law_any tk (pa_cons (pv 0) (pa_cons (pv 4) pa_nil))))
      (pss_one (ps_set (i := 10) sc__law_led.nd rfl (Or.inl rfl) (T.st_Links_read.elim fun _ h => pe_static (pl := _) G_Links_read (Room.mono hr (by decide)) T.rd_Links h T.c_Links tk (pa_cons (pe_callA G__law_dump (Room.mono hr (by decide)) T.n__law_dump tk (pa_cons (pv 9) pa_nil)) pa_nil))))))
      (pss_cons (ps_for pz rfl (pi_range1 rfl T.b_range (pa_cons pe_int pa_nil)) (pg_name (i := 12) sc__law_led.nd rfl (Or.inl rfl))
      (pss_cons (ps_if (pt_not (pt_tru (pe_callA G__law_turn (Room.mono hr (by decide)) T.n__law_turn tk (pa_cons (pv 0) (pa_cons (pv 9) (pa_cons (pv 10) (pa_cons (pv 2) (pa_cons (pv 6) pa_nil)))))))) (pss_one (ps_ret pe_bl)) pss_nil)
      (pss_one (ps_if (pt_tru (pv 6)) (pss_cons (ps_set (i := 13) sc__law_led.nd rfl (Or.inl rfl) (pe_ix ix_seq (pv 6) (pe_callA G__law_take (Room.mono hr (by decide)) T.n__law_take tk (pa_cons (pv 0) (pa_cons (pe_callB (b_len) rfl T.b_len (by decide +kernel) (pa_cons (pv 6) pa_nil)) pa_nil))) (fun _ _ => rfl)))
      (pss_cons (ps_expr (pe_methS (pl := _) G_Links_apply (Room.mono hr (by decide)) T.cl_Links T.me_Links_apply tk (pv 10) (pa_cons (pe_callA G__law_operation (Room.mono hr (by decide)) T.n__law_operation tk (pa_cons (pv 9) (pa_cons (pv 13) pa_nil))) pa_nil)))
      (pss_one (ps_set (i := 9) sc__law_led.nd rfl (Or.inl rfl) (pe_callA G__law_moved (Room.mono hr (by decide)) T.n__law_moved tk (pa_cons (pv 9) (pa_cons (pv 13) pa_nil))))))) pss_nil))))
      (pss_one (ps_ret pe_bl))))))))), ?_⟩
  show (_ : Ends → L2.St → Hp → Prop) _ [some _, some _, some _, none, none, none, none, none, none, none, none, none, none, none] _
  try dsimp only [L2H.cxH, cxOf]
  walk_at "w"
  refine ⟨b, q, 16, rfl, B, by omega, by omega, fun c1 H1 c10 c11 B1 k1 => ?_⟩
  have hN1 := hN.kp k1 sp B.lst
  walk_at "w"
  refine ⟨b, q, 7, rfl, B1, by omega, by omega, fun n1' H2 n10 n11 B2 k2 => ?_⟩
  have hN2 := hN1.kp k2 sp B1.lst
  have k02 := k1.trans k2
  clear hN hN1 B B1 k1 k2
  walk_at "w"
  refine s_cut (fun σ' H' => (∃ n : Int, σ' = [some (.ref b), some (.bl c), some (.ref p), some (.bl (decide (c1 = 0))), some (.int n), none, none, none, none, none, none, none, none, none] ∧ 0 ≤ n ∧ n ≤ 60) ∧ Bx H' b q ∧ Knd a H' p j0 j1 j2 j3 ∧ Kp [b, q] H H') ?_ ?_
  · walk_at "w"
    refine w_ite (fun c => ?_) (fun c => ?_)
    · walk_at "w"
      refine ⟨b, q, 54, rfl, B2, by omega, by omega, fun n2 H3 n20 n21 B3 k3 => ?_⟩
      walk_at "w"
      exact ⟨⟨_, rfl, by omega, by omega⟩, B3, hN2.kp k3 sp B2.lst, k02.trans k3⟩
    · walk_at "w"
      exact ⟨⟨_, rfl, by omega, by omega⟩, B2, hN2, k02⟩
  clear hN2 B2 k02 n10 n11 n1'
  rintro σ' H3 ⟨⟨n, rfl, n0, n1⟩, B3, hN3, k3⟩
  have W0 := wfs0 n0 n1
  walk_at "w"
  refine ⟨b, q, max 1 (n - 5), rfl, B3, by omega, by omega, fun sh H4 sh0 sh1 B4 k4 => ?_⟩
  have hN4 := hN3.kp k4 sp B3.lst
  have k04 := k3.trans k4
  clear B3 hN3 k3 k4
  walk_at "w"
  intro g hg
  have kg := Kp.refl.new (ms := []) (o := .lst ((rgI (1 + sh) (1 + sh + min n 6)).map V.int)) hg
  have hg5 : upd H4 g (.lst ((rgI (1 + sh) (1 + sh + min n 6)).map V.int)) g = some (.lst ((rgI (1 + sh) (1 + sh + min n 6)).map V.int)) := upd_same
  have B5 := B4.kp kg
  have hN5 := hN4.kp0 kg
  have k05 := k04.trans0 kg
  have gB : g ∉ [b, q] := B4.off hg
  have hu : ∀ u ∈ rgI (1 + sh) (1 + sh + min n 6), 1 ≤ u ∧ u ≤ n := fun u h => by
    have := rg_mem h
    omega
  have ul : (rgI (1 + sh) (1 + sh + min n 6)).length ≤ 6 := by rw [rg_len]; omega
  generalize upd H4 g (.lst ((rgI (1 + sh) (1 + sh + min n 6)).map V.int)) = H5 at hg5 B5 hN5 k05 ⊢
  generalize rgI (1 + sh) (1 + sh + min n 6) = us at hg5 hu ul
  clear kg hg B4 hN4 k04
  walk_at "w"
  refine s_cut (fun σ' H' => ∃ (w l r f x xl xr xf : Addr) (s : St3) (z7 z8 z11 : Option V), σ' = [some (.ref b), some (.bl c), some (.ref p), some (.bl (decide (c1 = 0))), some (.int n), some (.int sh), some (.ref g), z7, z8, some (.ref w), some (.ref x), z11, none, none] ∧ TI a H' b q w l r f x xl xr xf p j0 j1 j2 j3 g n s us ∧ TS' b q x xl xr xf p g ∧ (∀ y ∈ [w, l, r, f], y ∉ [xl, xr, xf]) ∧ p ∉ [xl, xr, xf] ∧ g ∉ [xl, xr, xf] ∧ (∀ y ∈ [b, q], y ∉ [xl, xr, xf]) ∧ (H xl = none ∧ H xr = none ∧ H xf = none) ∧ Kp [b, q] H H') ?_ ?_
  · walk_at "w"
    refine w_iteb (fun cc => ?_) (fun cc => ?_)
    · walk_at "w"
      refine ⟨rfl, fun ws H6 hws hws6 k6 => ?_⟩
      have B6 := B5.kp k6
      have hN6 := hN5.kp0 k6
      have hg6 := k6.at0 hg5
      have k06 := k05.trans0 k6
      have wB : ws ∉ [b, q] := B5.off hws
      walk_at "w"
      refine ⟨b, q, 4, rfl, B6, by omega, by omega, fun j H7 j0' j1' B7 k7 => ?_⟩
      have hws7 := k7 ws _ hws6 wB
      have hN7 := hN6.kp k7 sp B6.lst
      have hg7 := k7 g _ hg6 gB
      have k07 := k06.trans k7
      have ew := w4_at (i := j.toNat) (by omega)
      have sl : (["free", "saving", "guarded", "checked"] : List Str).length = 4 := rfl
      generalize (["free", "saving", "guarded", "checked"] : List Str) = wl at hws6 hws7 ew sl
      clear hN6 hg6 k06 k6 k7 B6 hws hws6
      walk_at "w"
      rw [ew]
      refine ⟨n, rfl, n0, n1, fun w l r f H8 hw hl hr hf hB k8 => ?_⟩
      have sB : ∀ y ∈ [w, l, r, f], y ∉ [b, q] := sep_of (four hw hl hr hf) B7.live
      have B8 := B7.kp k8
      have hN8 := hN7.kp0 k8
      have hg8 := k8.at0 hg7
      have k08 := k07.trans0 k8
      walk_at "w"
      refine ⟨b, q, 13, rfl, B8, by omega, by omega, fun mn H9 m0 m1 B9 k9 => ?_⟩
      have hB9 : BkS H9 [b, q] w l r f n (s0 n) := BkS.kp ⟨hB, sB⟩ k9 fun _ z => z
      have hN9 := hN8.kp k9 sp B8.lst
      have hg9 := k9 g _ hg8 gB
      have k09 := k08.trans k9
      clear hN7 hg7 k07 hN8 hg8 k08 B7 B8 hB k8 k9
      walk_at "w"
      refine ⟨b, q, w, l, r, f, n, sh, mn, j.toNat, s0 n, rfl, by omega, B9, hB9, W0, sh0, by omega, m0, by omega, fun t g2 w2 l2 r2 f2 rs H10 hg2 ht10 hg210 hrl hok hB10 B10 k10 => ?_⟩
      have hN10 := hN9.kp k10 sp B9.lst
      have hg10 := k10 g _ hg9 gB
      have k010 := k09.trans k10
      have g2B : g2 ∉ [b, q] := B9.off hg2
      clear hN9 hg9 k09 hB9 B9 k10
      walk_at "w"
      refine mk_new (fun z => absurd ⟨n0, n1⟩ z) fun _ _ x xl xr xf H11 hx hxl hxr hxf hX k11 => ?_
      have hxln := k010.freeB B10 hxl
      have hxrn := k010.freeB B10 hxr
      have hxfn := k010.freeB B10 hxf
      have sx : ∀ y ∈ [x, xl, xr, xf], y ∉ [b, q] := sep_of (four hx hxl hxr hxf) B10.live
      have e1 : ∀ y ∈ [w2, l2, r2, f2], y ∉ [xl, xr, xf] := fun y hy => sep1 (hB10.1.live y (by simpa [or_comm, or_left_comm] using hy)) hxl hxr hxf
      have e2 : p ∉ [xl, xr, xf] := sep1 ⟨_, hN10.1⟩ hxl hxr hxf
      have e3 : g ∉ [xl, xr, xf] := sep1 ⟨_, hg10⟩ hxl hxr hxf
      have e4 : ∀ y ∈ [b, q], y ∉ [xl, xr, xf] := fun y hy => sep1 (B10.live y hy) hxl hxr hxf
      have e5 : g2 ∉ [xl, xr, xf] := sep1 ⟨_, hg210⟩ hxl hxr hxf
      have I11 : TI a H11 b q w2 l2 r2 f2 x xl xr xf p j0 j1 j2 j3 g n (s0 n) us → True := fun _ => trivial
      have B11 := B10.kp k11
      have hB11 := hB10.kp0 k11
      have hN11 := hN10.kp0 k11
      have hg11 := k11.at0 hg10
      have hg211 := k11.at0 hg210
      have ht11 := k11.at0 ht10
      have k011 := k010.trans0 k11
      clear B10 hB10 hN10 hg10 hg210 ht10 k010 k11 hx hxl hxr hxf I11
      walk_at "w"
      refine w_forM (us := rs) (f := V.int) (p := g2) hg211 (fun i σ' H' => (∃ z11 : Option V, σ' = [some (.ref b), some (.bl c), some (.ref p), some (.bl (decide (c1 = 0))), some (.int n), some (.int sh), some (.ref g), some (.str (wordM j.toNat)), some (.ref t), some (.ref w2), some (.ref x), z11, none, none]) ∧ LkS a H' x xl xr xf n (runS (s0 n) (rs.take i)) ∧ Kp [xl, xr, xf] H11 H') ⟨⟨_, rfl⟩, hX, Kp.refl⟩ (fun i σ' H' _ h => h.2.2 g2 _ hg211 e5) ?_ ?_
      · rintro i u σ' H12 hu ⟨⟨z11, rfl⟩, hL12, k12⟩
        have hil : i < rs.length := (List.getElem?_eq_some_iff.mp hu).1
        have Wi : WFs n (runS (s0 n) (rs.take i)) := runS_wf W0 i (by omega) fun j o hj => hok j o (by omega)
        have hx12 := hL12.1.choose_spec
        walk_at "w"
        refine ap_do Wi (hok i u hil hu) hL12 fun H13 hL13 k13 => ?_
        walk_at "w"
        refine ⟨⟨_, rfl⟩, ?_, k12.trans k13⟩
        rw [take_snoc hu, runS_snoc]
        exact hL13
      · rintro σ' H12 ⟨⟨z11, rfl⟩, hL12, k12⟩
        rw [List.take_length] at hL12
        have W2 : WFs n (runS (s0 n) rs) := by
          have := runS_wf W0 rs.length (Nat.le_refl _) hok
          rwa [List.take_length] at this
        have l3 : ∀ y ∈ [xl, xr, xf], ∃ vs, H11 y = some (.lst vs) := fun y hy => by
          obtain ⟨_, y1, y2, y3, _⟩ := hX
          simp only [List.mem_cons, List.mem_nil_iff, or_false] at hy
          rcases hy with rfl | rfl | rfl
          · exact ⟨_, y1⟩
          · exact ⟨_, y2⟩
          · exact ⟨_, y3⟩
        walk_at "w"
        exact ⟨w2, l2, r2, f2, x, xl, xr, xf, _, _, _, _, rfl, ⟨B11.kpm k12 e4, ⟨Wd.kpS hB11.1 k12 e1, hB11.2⟩, hL12, hN11.kp k12 e2 l3, k12 g _ hg11 e3, W2, by omega, hu⟩, ⟨sx, sp, gB⟩, e1, e2, e3, e4, ⟨hxln, hxrn, hxfn⟩, kpx k011 hxln hxrn hxfn k12⟩
    · walk_at "w"
      refine ⟨b, q, n, rfl, B5, n0, n1, fun w l r f s H6 hw hl hr hf hB W B6 k6 => ?_⟩
      have sB : ∀ y ∈ [w, l, r, f], y ∉ [b, q] := sep_of (four hw hl hr hf) B5.live
      have hN6 := hN5.kp k6 sp B5.lst
      have hg6 := k6 g _ hg5 gB
      have k06 := k05.trans k6
      have WF1 : WF n s.1 s.2.1 s.2.2 := W
      walk_at "w"
      refine ⟨w, n, s, rfl, hB.x, W, fun H7 k7 => ?_⟩
      have hN7 := hN6.kp0 k7
      have hg7 := k7.at0 hg6
      have B7 := B6.kp k7
      have hB7 := hB.kp0 k7
      have k07 := k06.trans0 k7
      walk_at "w"
      refine ⟨_, rfl, Nat.le_trans (text_len WF1).1 (by decide), read_text WF1 fun x xl xr xf H8 hx hxl hxr hxf hX k8 => ?_⟩
      have hX : LkS a H8 x xl xr xf n s := hX
      have B8 := B7.kp k8
      have hxln := k07.freeB B7 hxl
      have hxrn := k07.freeB B7 hxr
      have hxfn := k07.freeB B7 hxf
      walk_at "w"
      exact ⟨w, l, r, f, x, xl, xr, xf, s, _, _, _, rfl, ⟨B8, ⟨hB7.kp0 k8, sB⟩, hX, hN7.kp0 k8, k8.at0 hg7, W, by omega, hu⟩, ⟨sep_of (four hx hxl hxr hxf) B7.live, sp, gB⟩, fun y hy => sep1 (hB7.live y (by simpa [or_comm, or_left_comm] using hy)) hxl hxr hxf, sep1 ⟨_, hN7.1⟩ hxl hxr hxf, sep1 ⟨_, hg7⟩ hxl hxr hxf, fun y hy => sep1 (B7.live y hy) hxl hxr hxf, ⟨hxln, hxrn, hxfn⟩, k07.trans0 k8⟩
  · rintro σ' H6 ⟨w, l, r, f, x, xl, xr, xf, s, z7, z8, z11, rfl, I, S, s1, s2, s3, s4, ⟨xn1, xn2, xn3⟩, k6⟩
    clear B5 hN5 k05 hg5
    walk_at "w"
    refine w_rng1 (n := 3) (by omega) (by omega) (fun i σ' H' => ∃ (w l r f : Addr) (s : St3) (z12 z13 : Option V), σ' = [some (.ref b), some (.bl c), some (.ref p), some (.bl (decide (c1 = 0))), some (.int n), some (.int sh), some (.ref g), z7, z8, some (.ref w), some (.ref x), z11, z12, z13] ∧ TI a H' b q w l r f x xl xr xf p j0 j1 j2 j3 g n s us ∧ (∀ y ∈ [w, l, r, f], y ∉ [xl, xr, xf]) ∧ Kp [b, q] H H') ⟨w, l, r, f, s, _, _, rfl, I, s1, k6⟩ ?_ ?_
    · clear I s1 k6 s
      rintro i σ' H7 hi ⟨w, l, r, f, s, z12, z13, rfl, I, s1, k7⟩
      walk_at "w"
      refine ⟨b, q, w, l, r, f, x, xl, xr, xf, p, j0, j1, j2, j3, g, n, s, us, rfl, I, S, fun H8 B8 k8 => ?_⟩
      have I8 := I.kp S B8 k8
      have k08 := k7.trans k8
      clear I k7 k8 B8
      have hg8 := I8.hg
      have W := I8.wf
      walk_at "w"
      refine w_iteb (fun cn => ?_) (fun cn => ?_)
      · have hne : 0 < us.length := by
          cases us with
          | nil => simp at cn
          | cons u us => simp
        walk_at "w"
        refine ⟨b, q, (us.length : Int), rfl, I8.bx, by omega, by omega, fun d H9 d0 d1 B9 k9 => ?_⟩
        have I9 := I8.kp S B9 k9
        have k09 := k08.trans k9
        clear I8 k08 k9 B9 hg8
        have hg9 := I9.hg
        have hv := hu _ (List.mem_of_getElem? (getD_some (show d.toNat < us.length by omega)))
        have hx9 := I9.lk.1.choose_spec
        walk_at "w"
        generalize us.getD d.toNat default = v at hv ⊢
        have hOv := opF_ok (s := s) (n := n) hv.1 hv.2
        refine ⟨w, n, v, s, rfl, I9.bk.1.x, W, hv.1, hv.2, ?_⟩
        walk_at "w"
        refine ap_do W hOv.2.2 I9.lk fun H10 hL10 k10 => ?_
        obtain ⟨B10, hB10, hN10, hg10⟩ := I9.ap hL10 s1 s2 s3 s4 k10
        have k010 := kpx k09 xn1 xn2 xn3 k10
        walk_at "w"
        refine ⟨w, n, v, s, rfl, hB10.1.x, W, hv.1, hv.2, fun w2 l2 r2 f2 H11 hw2 hl2 hr2 hf2 hB11 k11 => ?_⟩
        have l3 : ∀ y ∈ [xl, xr, xf], ∃ o, H10 y = some o := fun y hy => by
          obtain ⟨_, y1, y2, y3, _⟩ := hL10
          simp only [List.mem_cons, List.mem_nil_iff, or_false] at hy
          rcases hy with rfl | rfl | rfl
          · exact ⟨_, y1⟩
          · exact ⟨_, y2⟩
          · exact ⟨_, y3⟩
        walk_at "w"
        exact ⟨w2, l2, r2, f2, mvS s v, _, _, rfl, ⟨B10.kp k11, ⟨hB11, sep_of (four hw2 hl2 hr2 hf2) B10.live⟩, hL10.kp0 k11, hN10.kp0 k11, k11.at0 hg10, mvS_wf W hv.1 hv.2, by omega, hu⟩, sep_of (four hw2 hl2 hr2 hf2) l3, k010.trans0 k11⟩
      · walk_at "w"
        exact ⟨w, l, r, f, s, _, _, rfl, I8, s1, k08⟩
    · rintro σ' H7 ⟨w, l, r, f, s, z12, z13, rfl, I, s1, k7⟩
      walk_at "w"
      exact k H7 I.bx k7
/-! ### the law -/
def spL (K : PySem.W.Frag) : Sp := fun vs H Q E => ∃ (p : Addr) (ns : List Int), vs = [.ref p] ∧ SqL K H p (ns.map V.int) ∧ ns.length ≤ 63 ∧ (∀ H', Kp [] H H' → SqL K H' p (ns.map V.int)) ∧ ∀ H', Q (.bl true) H'
theorem sc_law : FnScope ["_law_script", "_law_purse_here", "_law_kinds_here"] ["_law_script"] (defScope s_law) := ⟨rfl, rfl, rfl, by decide +kernel, rfl, by decide +kernel, by decide +kernel⟩
theorem ok_law {P : Program} {w : World} {K : PySem.W.Frag} {mg : Str → Option Value} {base : Heap} {a : AD} (T : Txt P K mg a) {fd : FuncData} (F : Fun K "law" "law" s_law a.f_law fd) (G__law_purse : FnA P w K mg base 2 a.f__law_purse ["_law_script"] (sp__law_purse K a)) (G__law_kinds : FnA P w K mg base 4 a.f__law_kinds ["_law_purse_here"] (sp__law_kinds a)) (G__law_led : FnA P w K mg base 13 a.f__law_led ["_law_purse_here", "_law_reached", "_law_kinds_here"] (sp__law_led a)) : FnOk P w K mg base (L2N.CX P w) 14 a.f_law fd ["_law_script"] (spL K) := by
  refine FnOk_of F sc_law (fun vs H Q E h => by first | (obtain ⟨_, rfl, _⟩ := h; rfl) | (obtain ⟨_, _, rfl, _⟩ := h; rfl)) (fun cdv A outer s H vs Q E hr tk pz h => ?_)
  have hu := hr.units
  have hrH := L2H.roomH_of hr
  obtain ⟨sc, ns, rfl, hsc, hlen, hkeep, k⟩ := h
  refine ⟨_, (pss_cons (ps_set (i := 1) sc_law.nd rfl (Or.inl rfl) (pe_callA G__law_purse (Room.mono hr (by decide)) T.n__law_purse tk (pa_cons (pv 0) pa_nil)))
      (pss_cons (ps_set (i := 2) sc_law.nd rfl (Or.inl rfl) (pe_callA G__law_kinds (Room.mono hr (by decide)) T.n__law_kinds tk (pa_cons (pv 1) pa_nil)))
      (pss_cons (ps_if (pt_cmpA (o_ne hu) (pe_callB (b_len) rfl T.b_len (by decide +kernel) (pa_cons (pv 2) pa_nil)) pe_int (nomark _)) (pss_one (ps_ret pe_bl)) pss_nil)
      (pss_one (ps_ret (pe_and (pe_callA G__law_led (Room.mono hr (by decide)) T.n__law_led tk (pa_cons (pv 1) (pa_cons pe_bl (pa_cons (pv 2) pa_nil)))) (pe_one (pe_callA G__law_led (Room.mono hr (by decide)) T.n__law_led tk (pa_cons (pv 1) (pa_cons pe_bl (pa_cons (pv 2) pa_nil))))))))))), ?_⟩
  show (_ : Ends → L2.St → Hp → Prop) _ [some _, none, none] _
  try dsimp only [L2H.cxH, cxOf]
  walk_at "w"
  refine ⟨sc, ns, rfl, hsc, fun b q H1 hb hq B1 k1 => ?_⟩
  walk_at "w"
  refine ⟨b, q, rfl, B1, fun p j0 j1 j2 j3 H2 hp hN B2 k2 => ?_⟩
  have sp : p ∉ [b, q] := B1.off hp
  have hp2 := hN.1
  walk_at "w"
  refine ⟨b, q, p, j0, j1, j2, j3, false, rfl, B2, hN, sp, fun H3 B3 k3 => ?_⟩
  walk_at "w"
  refine ⟨b, q, p, j0, j1, j2, j3, true, rfl, B3, hN.kp k3 sp B2.lst, sp, fun H4 B4 k4 => ?_⟩
  exact k H4
theorem spL_ok {K : PySem.W.Frag} {H : Hp} {a : Addr} {ns : List Int} (hl : ns.length ≤ 63) (hS : SqL K H a (ns.map V.int)) : spL K [.ref a] H (fun v _ => v = .bl true) fun _ _ _ => False := ⟨a, ns, rfl, hS, hl, fun H' k => SqL.kp' hS k, fun _ => rfl⟩
/-- what the top has left -/
theorem all_mk {P : Program} {w : World} {K : PySem.W.Frag} {h : Heap} {mg : Str → Option Value} {fa : Addr} (X : K.In h) (G : h.Ns mainGlobals mg) (hfa : mg "law" = some (.ref fa))
    {f_check_size : Addr} {oc_check_size kV_check_size dc_check_size pm_check_size cd_check_size ct_check_size : Value} {od_check_size an_check_size : Option Addr} {sl_check_size : Array (Option Value)}
    {f_check_operation : Addr} {oc_check_operation kV_check_operation dc_check_operation pm_check_operation cd_check_operation ct_check_operation : Value} {od_check_operation an_check_operation : Option Addr} {sl_check_operation : Array (Option Value)}
    {f_is_number : Addr} {oc_is_number kV_is_number dc_is_number pm_is_number cd_is_number ct_is_number : Value} {od_is_number an_is_number : Option Addr} {sl_is_number : Array (Option Value)}
    {f_left_holds : Addr} {oc_left_holds kV_left_holds dc_left_holds pm_left_holds cd_left_holds ct_left_holds : Value} {od_left_holds an_left_holds : Option Addr} {sl_left_holds : Array (Option Value)}
    {f_right_holds : Addr} {oc_right_holds kV_right_holds dc_right_holds pm_right_holds cd_right_holds ct_right_holds : Value} {od_right_holds an_right_holds : Option Addr} {sl_right_holds : Array (Option Value)}
    {f_foreign_writes : Addr} {oc_foreign_writes kV_foreign_writes dc_foreign_writes pm_foreign_writes cd_foreign_writes ct_foreign_writes : Value} {od_foreign_writes an_foreign_writes : Option Addr} {sl_foreign_writes : Array (Option Value)}
    {f__numbers : Addr} {oc__numbers kV__numbers dc__numbers pm__numbers cd__numbers ct__numbers : Value} {od__numbers an__numbers : Option Addr} {sl__numbers : Array (Option Value)}
    {f__read_rights : Addr} {oc__read_rights kV__read_rights dc__read_rights pm__read_rights cd__read_rights ct__read_rights : Value} {od__read_rights an__read_rights : Option Addr} {sl__read_rights : Array (Option Value)}
    {f__read_lefts : Addr} {oc__read_lefts kV__read_lefts dc__read_lefts pm__read_lefts cd__read_lefts ct__read_lefts : Value} {od__read_lefts an__read_lefts : Option Addr} {sl__read_lefts : Array (Option Value)}
    {f__read_outs : Addr} {oc__read_outs kV__read_outs dc__read_outs pm__read_outs cd__read_outs ct__read_outs : Value} {od__read_outs an__read_outs : Option Addr} {sl__read_outs : Array (Option Value)}
    {f_check_mode : Addr} {oc_check_mode kV_check_mode dc_check_mode pm_check_mode cd_check_mode ct_check_mode : Value} {od_check_mode an_check_mode : Option Addr} {sl_check_mode : Array (Option Value)}
    {f__check_legal : Addr} {oc__check_legal kV__check_legal dc__check_legal pm__check_legal cd__check_legal ct__check_legal : Value} {od__check_legal an__check_legal : Option Addr} {sl__check_legal : Array (Option Value)}
    {f__last_holders : Addr} {oc__last_holders kV__last_holders dc__last_holders pm__last_holders cd__last_holders ct__last_holders : Value} {od__last_holders an__last_holders : Option Addr} {sl__last_holders : Array (Option Value)}
    {f__loses_gap : Addr} {oc__loses_gap kV__loses_gap dc__loses_gap pm__loses_gap cd__loses_gap ct__loses_gap : Value} {od__loses_gap an__loses_gap : Option Addr} {sl__loses_gap : Array (Option Value)}
    {f__leaves_sole_holder : Addr} {oc__leaves_sole_holder kV__leaves_sole_holder dc__leaves_sole_holder pm__leaves_sole_holder cd__leaves_sole_holder ct__leaves_sole_holder : Value} {od__leaves_sole_holder an__leaves_sole_holder : Option Addr} {sl__leaves_sole_holder : Array (Option Value)}
    {f__is_local : Addr} {oc__is_local kV__is_local dc__is_local pm__is_local cd__is_local ct__is_local : Value} {od__is_local an__is_local : Option Addr} {sl__is_local : Array (Option Value)}
    {f_mode_named : Addr} {oc_mode_named kV_mode_named dc_mode_named pm_mode_named cd_mode_named ct_mode_named : Value} {od_mode_named an_mode_named : Option Addr} {sl_mode_named : Array (Option Value)}
    {D_admits : Addr} {tk_admits_mode : Tok}
    {f_admits : Addr} {oc_admits kV_admits dc_admits pm_admits cd_admits ct_admits : Value} {od_admits an_admits : Option Addr} {sl_admits : Array (Option Value)}
    {D_admitted : Addr} {tk_admitted_mode : Tok}
    {f_admitted : Addr} {oc_admitted kV_admitted dc_admitted pm_admitted cd_admitted ct_admitted : Value} {od_admitted an_admitted : Option Addr} {sl_admitted : Array (Option Value)}
    {f__law_purse : Addr} {oc__law_purse kV__law_purse dc__law_purse pm__law_purse cd__law_purse ct__law_purse : Value} {od__law_purse an__law_purse : Option Addr} {sl__law_purse : Array (Option Value)}
    {f__law_take : Addr} {oc__law_take kV__law_take dc__law_take pm__law_take cd__law_take ct__law_take : Value} {od__law_take an__law_take : Option Addr} {sl__law_take : Array (Option Value)}
    {f__law_words : Addr} {oc__law_words kV__law_words dc__law_words pm__law_words cd__law_words ct__law_words : Value} {od__law_words an__law_words : Option Addr} {sl__law_words : Array (Option Value)}
    {f__law_is : Addr} {oc__law_is kV__law_is dc__law_is pm__law_is cd__law_is ct__law_is : Value} {od__law_is an__law_is : Option Addr} {sl__law_is : Array (Option Value)}
    {f__law_ints : Addr} {oc__law_ints kV__law_ints dc__law_ints pm__law_ints cd__law_ints ct__law_ints : Value} {od__law_ints an__law_ints : Option Addr} {sl__law_ints : Array (Option Value)}
    {f__law_truth : Addr} {oc__law_truth kV__law_truth dc__law_truth pm__law_truth cd__law_truth ct__law_truth : Value} {od__law_truth an__law_truth : Option Addr} {sl__law_truth : Array (Option Value)}
    {f__law_whole : Addr} {oc__law_whole kV__law_whole dc__law_whole pm__law_whole cd__law_whole ct__law_whole : Value} {od__law_whole an__law_whole : Option Addr} {sl__law_whole : Array (Option Value)}
    {f__law_operation : Addr} {oc__law_operation kV__law_operation dc__law_operation pm__law_operation cd__law_operation ct__law_operation : Value} {od__law_operation an__law_operation : Option Addr} {sl__law_operation : Array (Option Value)}
    {f__law_moved : Addr} {oc__law_moved kV__law_moved dc__law_moved pm__law_moved cd__law_moved ct__law_moved : Value} {od__law_moved an__law_moved : Option Addr} {sl__law_moved : Array (Option Value)}
    {f__law_dump : Addr} {oc__law_dump kV__law_dump dc__law_dump pm__law_dump cd__law_dump ct__law_dump : Value} {od__law_dump an__law_dump : Option Addr} {sl__law_dump : Array (Option Value)}
    {f__law_lost : Addr} {oc__law_lost kV__law_lost dc__law_lost pm__law_lost cd__law_lost ct__law_lost : Value} {od__law_lost an__law_lost : Option Addr} {sl__law_lost : Array (Option Value)}
    {f__law_refusing : Addr} {oc__law_refusing kV__law_refusing dc__law_refusing pm__law_refusing cd__law_refusing ct__law_refusing : Value} {od__law_refusing an__law_refusing : Option Addr} {sl__law_refusing : Array (Option Value)}
    {f__law_any : Addr} {oc__law_any kV__law_any dc__law_any pm__law_any cd__law_any ct__law_any : Value} {od__law_any an__law_any : Option Addr} {sl__law_any : Array (Option Value)}
    {f__law_run : Addr} {oc__law_run kV__law_run dc__law_run pm__law_run cd__law_run ct__law_run : Value} {od__law_run an__law_run : Option Addr} {sl__law_run : Array (Option Value)}
    {f__law_kinds : Addr} {oc__law_kinds kV__law_kinds dc__law_kinds pm__law_kinds cd__law_kinds ct__law_kinds : Value} {od__law_kinds an__law_kinds : Option Addr} {sl__law_kinds : Array (Option Value)}
    {f__law_asked : Addr} {oc__law_asked kV__law_asked dc__law_asked pm__law_asked cd__law_asked ct__law_asked : Value} {od__law_asked an__law_asked : Option Addr} {sl__law_asked : Array (Option Value)}
    {f__law_listed : Addr} {oc__law_listed kV__law_listed dc__law_listed pm__law_listed cd__law_listed ct__law_listed : Value} {od__law_listed an__law_listed : Option Addr} {sl__law_listed : Array (Option Value)}
    {f__law_wrong : Addr} {oc__law_wrong kV__law_wrong dc__law_wrong pm__law_wrong cd__law_wrong ct__law_wrong : Value} {od__law_wrong an__law_wrong : Option Addr} {sl__law_wrong : Array (Option Value)}
    {f__law_refused : Addr} {oc__law_refused kV__law_refused dc__law_refused pm__law_refused cd__law_refused ct__law_refused : Value} {od__law_refused an__law_refused : Option Addr} {sl__law_refused : Array (Option Value)}
    {f__law_barred : Addr} {oc__law_barred kV__law_barred dc__law_barred pm__law_barred cd__law_barred ct__law_barred : Value} {od__law_barred an__law_barred : Option Addr} {sl__law_barred : Array (Option Value)}
    {f__law_no_mode : Addr} {oc__law_no_mode kV__law_no_mode dc__law_no_mode pm__law_no_mode cd__law_no_mode ct__law_no_mode : Value} {od__law_no_mode an__law_no_mode : Option Addr} {sl__law_no_mode : Array (Option Value)}
    {f__law_text : Addr} {oc__law_text kV__law_text dc__law_text pm__law_text cd__law_text ct__law_text : Value} {od__law_text an__law_text : Option Addr} {sl__law_text : Array (Option Value)}
    {f__law_turn : Addr} {oc__law_turn kV__law_turn dc__law_turn pm__law_turn cd__law_turn ct__law_turn : Value} {od__law_turn an__law_turn : Option Addr} {sl__law_turn : Array (Option Value)}
    {f__law_led : Addr} {oc__law_led kV__law_led dc__law_led pm__law_led cd__law_led ct__law_led : Value} {od__law_led an__law_led : Option Addr} {sl__law_led : Array (Option Value)}
    {f_law : Addr} {oc_law kV_law dc_law pm_law cd_law ct_law : Value} {od_law an_law : Option Addr} {sl_law : Array (Option Value)}
    {f_Links___init__ : Addr} {oc_Links___init__ kV_Links___init__ dc_Links___init__ pm_Links___init__ cd_Links___init__ ct_Links___init__ : Value} {od_Links___init__ an_Links___init__ : Option Addr} {sl_Links___init__ : Array (Option Value)}
    {f_Links_built : Addr} {oc_Links_built kV_Links_built dc_Links_built pm_Links_built cd_Links_built ct_Links_built : Value} {od_Links_built an_Links_built : Option Addr} {sl_Links_built : Array (Option Value)}
    {f_Links_read : Addr} {oc_Links_read kV_Links_read dc_Links_read pm_Links_read cd_Links_read ct_Links_read : Value} {od_Links_read an_Links_read : Option Addr} {sl_Links_read : Array (Option Value)}
    {f_Links_left : Addr} {oc_Links_left kV_Links_left dc_Links_left pm_Links_left cd_Links_left ct_Links_left : Value} {od_Links_left an_Links_left : Option Addr} {sl_Links_left : Array (Option Value)}
    {f_Links_right : Addr} {oc_Links_right kV_Links_right dc_Links_right pm_Links_right cd_Links_right ct_Links_right : Value} {od_Links_right an_Links_right : Option Addr} {sl_Links_right : Array (Option Value)}
    {f_Links_is_out : Addr} {oc_Links_is_out kV_Links_is_out dc_Links_is_out pm_Links_is_out cd_Links_is_out ct_Links_is_out : Value} {od_Links_is_out an_Links_is_out : Option Addr} {sl_Links_is_out : Array (Option Value)}
    {f_Links_operation_on : Addr} {oc_Links_operation_on kV_Links_operation_on dc_Links_operation_on pm_Links_operation_on cd_Links_operation_on ct_Links_operation_on : Value} {od_Links_operation_on an_Links_operation_on : Option Addr} {sl_Links_operation_on : Array (Option Value)}
    {f_Links_apply : Addr} {oc_Links_apply kV_Links_apply dc_Links_apply pm_Links_apply cd_Links_apply ct_Links_apply : Value} {od_Links_apply an_Links_apply : Option Addr} {sl_Links_apply : Array (Option Value)}
    {f_Links_apply_at : Addr} {oc_Links_apply_at kV_Links_apply_at dc_Links_apply_at pm_Links_apply_at cd_Links_apply_at ct_Links_apply_at : Value} {od_Links_apply_at an_Links_apply_at : Option Addr} {sl_Links_apply_at : Array (Option Value)}
    {f_Links_dump : Addr} {oc_Links_dump kV_Links_dump dc_Links_dump pm_Links_dump cd_Links_dump ct_Links_dump : Value} {od_Links_dump an_Links_dump : Option Addr} {sl_Links_dump : Array (Option Value)}
    {f_Links__dump_parts : Addr} {oc_Links__dump_parts kV_Links__dump_parts dc_Links__dump_parts pm_Links__dump_parts cd_Links__dump_parts ct_Links__dump_parts : Value} {od_Links__dump_parts an_Links__dump_parts : Option Addr} {sl_Links__dump_parts : Array (Option Value)}
    {f_FreeMode_refusal : Addr} {oc_FreeMode_refusal kV_FreeMode_refusal dc_FreeMode_refusal pm_FreeMode_refusal cd_FreeMode_refusal ct_FreeMode_refusal : Value} {od_FreeMode_refusal an_FreeMode_refusal : Option Addr} {sl_FreeMode_refusal : Array (Option Value)}
    {cda_SavingMode_refusal cc_SavingMode_refusal : Addr} {ccl_SavingMode_refusal cl_SavingMode_refusal_ : Value} {cdd_SavingMode_refusal cld_SavingMode_refusal : Option Addr} {cvs_SavingMode_refusal : Array Value} {ccs_SavingMode_refusal csl_SavingMode_refusal : Array (Option Value)} {fi_SavingMode_refusal : Str} {tf_SavingMode_refusal : Tok} {ar_SavingMode_refusal : Arg}
    {f_SavingMode_refusal : Addr} {oc_SavingMode_refusal kV_SavingMode_refusal dc_SavingMode_refusal pm_SavingMode_refusal cd_SavingMode_refusal ct_SavingMode_refusal : Value} {od_SavingMode_refusal an_SavingMode_refusal : Option Addr} {sl_SavingMode_refusal : Array (Option Value)}
    {cda_GuardedMode_refusal cc_GuardedMode_refusal : Addr} {ccl_GuardedMode_refusal cl_GuardedMode_refusal_ : Value} {cdd_GuardedMode_refusal cld_GuardedMode_refusal : Option Addr} {cvs_GuardedMode_refusal : Array Value} {ccs_GuardedMode_refusal csl_GuardedMode_refusal : Array (Option Value)} {fi_GuardedMode_refusal : Str} {tf_GuardedMode_refusal : Tok} {ar_GuardedMode_refusal : Arg}
    {f_GuardedMode_refusal : Addr} {oc_GuardedMode_refusal kV_GuardedMode_refusal dc_GuardedMode_refusal pm_GuardedMode_refusal cd_GuardedMode_refusal ct_GuardedMode_refusal : Value} {od_GuardedMode_refusal an_GuardedMode_refusal : Option Addr} {sl_GuardedMode_refusal : Array (Option Value)}
    {cda_CheckedMode_refusal cc_CheckedMode_refusal : Addr} {ccl_CheckedMode_refusal cl_CheckedMode_refusal_ : Value} {cdd_CheckedMode_refusal cld_CheckedMode_refusal : Option Addr} {cvs_CheckedMode_refusal : Array Value} {ccs_CheckedMode_refusal csl_CheckedMode_refusal : Array (Option Value)} {fi_CheckedMode_refusal : Str} {tf_CheckedMode_refusal : Tok} {ar_CheckedMode_refusal : Arg}
    {f_CheckedMode_refusal : Addr} {oc_CheckedMode_refusal kV_CheckedMode_refusal dc_CheckedMode_refusal pm_CheckedMode_refusal cd_CheckedMode_refusal ct_CheckedMode_refusal : Value} {od_CheckedMode_refusal an_CheckedMode_refusal : Option Addr} {sl_CheckedMode_refusal : Array (Option Value)}
    {LinkError : Addr}
    {LogError : Addr}
    {BadOperation : Addr} {i_BadOperation : Addr}
    {Illegal : Addr} {i_Illegal : Addr}
    {BadSize : Addr} {i_BadSize : Addr}
    {BadNode : Addr} {i_BadNode : Addr}
    {BadMode : Addr} {i_BadMode : Addr}
    {BadDump : Addr} {i_BadDump : Addr}
    {t_MOST_NODES : Tok}
    {t_MOST_DIGITS : Tok}
    {t_PARTS : Tok}
    {kc_MODES : Addr} {kd_MODES : Option Addr} {ki_MODES : Array Value} {kn_MODES : Nat} {ks_MODES : Array (Option Value)}
    {Links : Addr}
    {t_Links_MOST : Tok}
    {FreeMode : Addr}
    {t_FreeMode_NAME : Tok}
    {SavingMode : Addr}
    {t_SavingMode_NAME : Tok}
    {GuardedMode : Addr}
    {t_GuardedMode_NAME : Tok}
    {CheckedMode : Addr}
    {t_CheckedMode_NAME : Tok}
    {p_Links_built : Addr} {rest_Links_built : List Value}
    {p_Links_read : Addr} {rest_Links_read : List Value}
    (a_Links : PySem.W.nsIn K mainGlobals "Links" = some (some (.ref Links)))
    (cl_Links : Cls K Links)
    (rd_Links : ClX.CRead K Links (.type "type"))
    (mk1_Links : PySem.W.makesIn K Links = true) (mk2_Links : PySem.W.findIn K (.ref Links) "__init__" = some (some (.ref f_Links___init__))) (mk3_Links : PySem.W.isFn K (.ref f_Links___init__) = true) (mk4_Links : PySem.W.keepIn K (.ref Links) = true)
    (na_Links_size : NoAttr K Links "size")
    (na_Links__lefts : NoAttr K Links "_lefts")
    (na_Links__rights : NoAttr K Links "_rights")
    (na_Links__flags : NoAttr K Links "_flags")
    (cv_Links_MOST : PySem.W.findCls K (.ref Links) (.type "type") "MOST" = some (.val (.int 60 t_Links_MOST)))
    (a_FreeMode : PySem.W.nsIn K mainGlobals "FreeMode" = some (some (.ref FreeMode)))
    (cl_FreeMode : Cls K FreeMode)
    (ia_FreeMode : PySem.W.findIn K (.ref FreeMode) "__class__" = some (some (.builtin "object.__class__"))) (ib_FreeMode : PySem.W.specialIn K (.builtin "object.__class__") "__get__" = some (some (.builtin "getset_descriptor.__get__"))) (ic_FreeMode : PySem.W.takesIn K (.builtin "object.__class__") = some true) (im_FreeMode : PySem.W.mroIn K FreeMode (.type "object") = some true)
    (rd_FreeMode : ClX.CRead K FreeMode (.type "type"))
    (cv_FreeMode_NAME : PySem.W.findCls K (.ref FreeMode) (.type "type") "NAME" = some (.val (.str "free" t_FreeMode_NAME)))
    (kdi_FreeMode : PySem.W.isClsIn K FreeMode = true) (kdt_FreeMode : PySem.W.typeIn K (.ref FreeMode) = some (.type "type"))
    (kds_FreeMode_FreeMode : PySem.W.subIn K (.ref FreeMode) (.ref FreeMode) = some true)
    (kds_SavingMode_FreeMode : PySem.W.subIn K (.ref SavingMode) (.ref FreeMode) = some true)
    (kds_GuardedMode_FreeMode : PySem.W.subIn K (.ref GuardedMode) (.ref FreeMode) = some true)
    (kds_CheckedMode_FreeMode : PySem.W.subIn K (.ref CheckedMode) (.ref FreeMode) = some true)
    (cnf_FreeMode_NAME : PySem.W.findIn K (.ref FreeMode) "NAME" = some (some (.str "free" t_FreeMode_NAME))) (cng_FreeMode_NAME : PySem.W.specialIn K (.str "free" t_FreeMode_NAME) "__get__" = some none)
    (m01_FreeMode : PySem.W.makesIn K FreeMode = true) (m02_FreeMode : PySem.W.findIn K (.ref FreeMode) "__init__" = some (some (.builtin "object.__init__"))) (m03_FreeMode : PySem.W.keepIn K (.ref FreeMode) = true)
    (a_SavingMode : PySem.W.nsIn K mainGlobals "SavingMode" = some (some (.ref SavingMode)))
    (cl_SavingMode : Cls K SavingMode)
    (ia_SavingMode : PySem.W.findIn K (.ref SavingMode) "__class__" = some (some (.builtin "object.__class__"))) (ib_SavingMode : PySem.W.specialIn K (.builtin "object.__class__") "__get__" = some (some (.builtin "getset_descriptor.__get__"))) (ic_SavingMode : PySem.W.takesIn K (.builtin "object.__class__") = some true) (im_SavingMode : PySem.W.mroIn K SavingMode (.type "object") = some true)
    (rd_SavingMode : ClX.CRead K SavingMode (.type "type"))
    (cv_SavingMode_NAME : PySem.W.findCls K (.ref SavingMode) (.type "type") "NAME" = some (.val (.str "saving" t_SavingMode_NAME)))
    (kdi_SavingMode : PySem.W.isClsIn K SavingMode = true) (kdt_SavingMode : PySem.W.typeIn K (.ref SavingMode) = some (.type "type"))
    (kds_FreeMode_SavingMode : PySem.W.subIn K (.ref FreeMode) (.ref SavingMode) = some false)
    (kds_SavingMode_SavingMode : PySem.W.subIn K (.ref SavingMode) (.ref SavingMode) = some true)
    (kds_GuardedMode_SavingMode : PySem.W.subIn K (.ref GuardedMode) (.ref SavingMode) = some true)
    (kds_CheckedMode_SavingMode : PySem.W.subIn K (.ref CheckedMode) (.ref SavingMode) = some true)
    (cnf_SavingMode_NAME : PySem.W.findIn K (.ref SavingMode) "NAME" = some (some (.str "saving" t_SavingMode_NAME))) (cng_SavingMode_NAME : PySem.W.specialIn K (.str "saving" t_SavingMode_NAME) "__get__" = some none)
    (m01_SavingMode : PySem.W.makesIn K SavingMode = true) (m02_SavingMode : PySem.W.findIn K (.ref SavingMode) "__init__" = some (some (.builtin "object.__init__"))) (m03_SavingMode : PySem.W.keepIn K (.ref SavingMode) = true)
    (a_GuardedMode : PySem.W.nsIn K mainGlobals "GuardedMode" = some (some (.ref GuardedMode)))
    (cl_GuardedMode : Cls K GuardedMode)
    (ia_GuardedMode : PySem.W.findIn K (.ref GuardedMode) "__class__" = some (some (.builtin "object.__class__"))) (ib_GuardedMode : PySem.W.specialIn K (.builtin "object.__class__") "__get__" = some (some (.builtin "getset_descriptor.__get__"))) (ic_GuardedMode : PySem.W.takesIn K (.builtin "object.__class__") = some true) (im_GuardedMode : PySem.W.mroIn K GuardedMode (.type "object") = some true)
    (rd_GuardedMode : ClX.CRead K GuardedMode (.type "type"))
    (cv_GuardedMode_NAME : PySem.W.findCls K (.ref GuardedMode) (.type "type") "NAME" = some (.val (.str "guarded" t_GuardedMode_NAME)))
    (kdi_GuardedMode : PySem.W.isClsIn K GuardedMode = true) (kdt_GuardedMode : PySem.W.typeIn K (.ref GuardedMode) = some (.type "type"))
    (kds_FreeMode_GuardedMode : PySem.W.subIn K (.ref FreeMode) (.ref GuardedMode) = some false)
    (kds_SavingMode_GuardedMode : PySem.W.subIn K (.ref SavingMode) (.ref GuardedMode) = some false)
    (kds_GuardedMode_GuardedMode : PySem.W.subIn K (.ref GuardedMode) (.ref GuardedMode) = some true)
    (kds_CheckedMode_GuardedMode : PySem.W.subIn K (.ref CheckedMode) (.ref GuardedMode) = some true)
    (cnf_GuardedMode_NAME : PySem.W.findIn K (.ref GuardedMode) "NAME" = some (some (.str "guarded" t_GuardedMode_NAME))) (cng_GuardedMode_NAME : PySem.W.specialIn K (.str "guarded" t_GuardedMode_NAME) "__get__" = some none)
    (m01_GuardedMode : PySem.W.makesIn K GuardedMode = true) (m02_GuardedMode : PySem.W.findIn K (.ref GuardedMode) "__init__" = some (some (.builtin "object.__init__"))) (m03_GuardedMode : PySem.W.keepIn K (.ref GuardedMode) = true)
    (a_CheckedMode : PySem.W.nsIn K mainGlobals "CheckedMode" = some (some (.ref CheckedMode)))
    (cl_CheckedMode : Cls K CheckedMode)
    (ia_CheckedMode : PySem.W.findIn K (.ref CheckedMode) "__class__" = some (some (.builtin "object.__class__"))) (ib_CheckedMode : PySem.W.specialIn K (.builtin "object.__class__") "__get__" = some (some (.builtin "getset_descriptor.__get__"))) (ic_CheckedMode : PySem.W.takesIn K (.builtin "object.__class__") = some true) (im_CheckedMode : PySem.W.mroIn K CheckedMode (.type "object") = some true)
    (rd_CheckedMode : ClX.CRead K CheckedMode (.type "type"))
    (cv_CheckedMode_NAME : PySem.W.findCls K (.ref CheckedMode) (.type "type") "NAME" = some (.val (.str "checked" t_CheckedMode_NAME)))
    (kdi_CheckedMode : PySem.W.isClsIn K CheckedMode = true) (kdt_CheckedMode : PySem.W.typeIn K (.ref CheckedMode) = some (.type "type"))
    (kds_FreeMode_CheckedMode : PySem.W.subIn K (.ref FreeMode) (.ref CheckedMode) = some false)
    (kds_SavingMode_CheckedMode : PySem.W.subIn K (.ref SavingMode) (.ref CheckedMode) = some false)
    (kds_GuardedMode_CheckedMode : PySem.W.subIn K (.ref GuardedMode) (.ref CheckedMode) = some false)
    (kds_CheckedMode_CheckedMode : PySem.W.subIn K (.ref CheckedMode) (.ref CheckedMode) = some true)
    (cnf_CheckedMode_NAME : PySem.W.findIn K (.ref CheckedMode) "NAME" = some (some (.str "checked" t_CheckedMode_NAME))) (cng_CheckedMode_NAME : PySem.W.specialIn K (.str "checked" t_CheckedMode_NAME) "__get__" = some none)
    (m01_CheckedMode : PySem.W.makesIn K CheckedMode = true) (m02_CheckedMode : PySem.W.findIn K (.ref CheckedMode) "__init__" = some (some (.builtin "object.__init__"))) (m03_CheckedMode : PySem.W.keepIn K (.ref CheckedMode) = true)
    (l_Links___init__ : K.lookup f_Links___init__ = some ⟨oc_Links___init__, od_Links___init__, .func (PySem.W.fnOf "__init__" "Links.__init__" (defArgs s_Links___init__) (defBody s_Links___init__) (defScope s_Links___init__) .none kV_Links___init__ dc_Links___init__ pm_Links___init__ an_Links___init__ cd_Links___init__ ct_Links___init__), sl_Links___init__⟩) (c_Links___init__ : PySem.W.codeIn K cd_Links___init__ "Links.__init__" = true) (k_Links___init__ : PySem.W.keepIn K (.ref f_Links___init__) = true)
    (st1_Links_built : PySem.W.findCls K (.ref Links) (.type "type") "built" = some (.get (.builtin "staticmethod.__get__") (.ref p_Links_built) .none (.ref Links))) (st2_Links_built : PySem.W.recIn K p_Links_built "staticmethod" = some (.ref f_Links_built :: rest_Links_built))
    (l_Links_built : K.lookup f_Links_built = some ⟨oc_Links_built, od_Links_built, .func (PySem.W.fnOf "built" "Links.built" (defArgs s_Links_built) (defBody s_Links_built) (defScope s_Links_built) .none kV_Links_built dc_Links_built pm_Links_built an_Links_built cd_Links_built ct_Links_built), sl_Links_built⟩) (c_Links_built : PySem.W.codeIn K cd_Links_built "Links.built" = true) (k_Links_built : PySem.W.keepIn K (.ref f_Links_built) = true)
    (st1_Links_read : PySem.W.findCls K (.ref Links) (.type "type") "read" = some (.get (.builtin "staticmethod.__get__") (.ref p_Links_read) .none (.ref Links))) (st2_Links_read : PySem.W.recIn K p_Links_read "staticmethod" = some (.ref f_Links_read :: rest_Links_read))
    (l_Links_read : K.lookup f_Links_read = some ⟨oc_Links_read, od_Links_read, .func (PySem.W.fnOf "read" "Links.read" (defArgs s_Links_read) (defBody s_Links_read) (defScope s_Links_read) .none kV_Links_read dc_Links_read pm_Links_read an_Links_read cd_Links_read ct_Links_read), sl_Links_read⟩) (c_Links_read : PySem.W.codeIn K cd_Links_read "Links.read" = true) (k_Links_read : PySem.W.keepIn K (.ref f_Links_read) = true)
    (me1_Links_left : PySem.W.findIn K (.ref Links) "left" = some (some (.ref f_Links_left))) (me2_Links_left : PySem.W.isFn K (.ref f_Links_left) = true)
    (l_Links_left : K.lookup f_Links_left = some ⟨oc_Links_left, od_Links_left, .func (PySem.W.fnOf "left" "Links.left" (defArgs s_Links_left) (defBody s_Links_left) (defScope s_Links_left) .none kV_Links_left dc_Links_left pm_Links_left an_Links_left cd_Links_left ct_Links_left), sl_Links_left⟩) (c_Links_left : PySem.W.codeIn K cd_Links_left "Links.left" = true) (k_Links_left : PySem.W.keepIn K (.ref f_Links_left) = true)
    (me1_Links_right : PySem.W.findIn K (.ref Links) "right" = some (some (.ref f_Links_right))) (me2_Links_right : PySem.W.isFn K (.ref f_Links_right) = true)
    (l_Links_right : K.lookup f_Links_right = some ⟨oc_Links_right, od_Links_right, .func (PySem.W.fnOf "right" "Links.right" (defArgs s_Links_right) (defBody s_Links_right) (defScope s_Links_right) .none kV_Links_right dc_Links_right pm_Links_right an_Links_right cd_Links_right ct_Links_right), sl_Links_right⟩) (c_Links_right : PySem.W.codeIn K cd_Links_right "Links.right" = true) (k_Links_right : PySem.W.keepIn K (.ref f_Links_right) = true)
    (me1_Links_is_out : PySem.W.findIn K (.ref Links) "is_out" = some (some (.ref f_Links_is_out))) (me2_Links_is_out : PySem.W.isFn K (.ref f_Links_is_out) = true)
    (l_Links_is_out : K.lookup f_Links_is_out = some ⟨oc_Links_is_out, od_Links_is_out, .func (PySem.W.fnOf "is_out" "Links.is_out" (defArgs s_Links_is_out) (defBody s_Links_is_out) (defScope s_Links_is_out) .none kV_Links_is_out dc_Links_is_out pm_Links_is_out an_Links_is_out cd_Links_is_out ct_Links_is_out), sl_Links_is_out⟩) (c_Links_is_out : PySem.W.codeIn K cd_Links_is_out "Links.is_out" = true) (k_Links_is_out : PySem.W.keepIn K (.ref f_Links_is_out) = true)
    (me1_Links_operation_on : PySem.W.findIn K (.ref Links) "operation_on" = some (some (.ref f_Links_operation_on))) (me2_Links_operation_on : PySem.W.isFn K (.ref f_Links_operation_on) = true)
    (l_Links_operation_on : K.lookup f_Links_operation_on = some ⟨oc_Links_operation_on, od_Links_operation_on, .func (PySem.W.fnOf "operation_on" "Links.operation_on" (defArgs s_Links_operation_on) (defBody s_Links_operation_on) (defScope s_Links_operation_on) .none kV_Links_operation_on dc_Links_operation_on pm_Links_operation_on an_Links_operation_on cd_Links_operation_on ct_Links_operation_on), sl_Links_operation_on⟩) (c_Links_operation_on : PySem.W.codeIn K cd_Links_operation_on "Links.operation_on" = true) (k_Links_operation_on : PySem.W.keepIn K (.ref f_Links_operation_on) = true)
    (me1_Links_apply : PySem.W.findIn K (.ref Links) "apply" = some (some (.ref f_Links_apply))) (me2_Links_apply : PySem.W.isFn K (.ref f_Links_apply) = true)
    (l_Links_apply : K.lookup f_Links_apply = some ⟨oc_Links_apply, od_Links_apply, .func (PySem.W.fnOf "apply" "Links.apply" (defArgs s_Links_apply) (defBody s_Links_apply) (defScope s_Links_apply) .none kV_Links_apply dc_Links_apply pm_Links_apply an_Links_apply cd_Links_apply ct_Links_apply), sl_Links_apply⟩) (c_Links_apply : PySem.W.codeIn K cd_Links_apply "Links.apply" = true) (k_Links_apply : PySem.W.keepIn K (.ref f_Links_apply) = true)
    (me1_Links_apply_at : PySem.W.findIn K (.ref Links) "apply_at" = some (some (.ref f_Links_apply_at))) (me2_Links_apply_at : PySem.W.isFn K (.ref f_Links_apply_at) = true)
    (l_Links_apply_at : K.lookup f_Links_apply_at = some ⟨oc_Links_apply_at, od_Links_apply_at, .func (PySem.W.fnOf "apply_at" "Links.apply_at" (defArgs s_Links_apply_at) (defBody s_Links_apply_at) (defScope s_Links_apply_at) .none kV_Links_apply_at dc_Links_apply_at pm_Links_apply_at an_Links_apply_at cd_Links_apply_at ct_Links_apply_at), sl_Links_apply_at⟩) (c_Links_apply_at : PySem.W.codeIn K cd_Links_apply_at "Links.apply_at" = true) (k_Links_apply_at : PySem.W.keepIn K (.ref f_Links_apply_at) = true)
    (me1_Links_dump : PySem.W.findIn K (.ref Links) "dump" = some (some (.ref f_Links_dump))) (me2_Links_dump : PySem.W.isFn K (.ref f_Links_dump) = true)
    (l_Links_dump : K.lookup f_Links_dump = some ⟨oc_Links_dump, od_Links_dump, .func (PySem.W.fnOf "dump" "Links.dump" (defArgs s_Links_dump) (defBody s_Links_dump) (defScope s_Links_dump) .none kV_Links_dump dc_Links_dump pm_Links_dump an_Links_dump cd_Links_dump ct_Links_dump), sl_Links_dump⟩) (c_Links_dump : PySem.W.codeIn K cd_Links_dump "Links.dump" = true) (k_Links_dump : PySem.W.keepIn K (.ref f_Links_dump) = true)
    (me1_Links__dump_parts : PySem.W.findIn K (.ref Links) "_dump_parts" = some (some (.ref f_Links__dump_parts))) (me2_Links__dump_parts : PySem.W.isFn K (.ref f_Links__dump_parts) = true)
    (l_Links__dump_parts : K.lookup f_Links__dump_parts = some ⟨oc_Links__dump_parts, od_Links__dump_parts, .func (PySem.W.fnOf "_dump_parts" "Links._dump_parts" (defArgs s_Links__dump_parts) (defBody s_Links__dump_parts) (defScope s_Links__dump_parts) .none kV_Links__dump_parts dc_Links__dump_parts pm_Links__dump_parts an_Links__dump_parts cd_Links__dump_parts ct_Links__dump_parts), sl_Links__dump_parts⟩) (c_Links__dump_parts : PySem.W.codeIn K cd_Links__dump_parts "Links._dump_parts" = true) (k_Links__dump_parts : PySem.W.keepIn K (.ref f_Links__dump_parts) = true)
    (me1_FreeMode_refusal : PySem.W.findIn K (.ref FreeMode) "refusal" = some (some (.ref f_FreeMode_refusal))) (me2_FreeMode_refusal : PySem.W.isFn K (.ref f_FreeMode_refusal) = true)
    (l_FreeMode_refusal : K.lookup f_FreeMode_refusal = some ⟨oc_FreeMode_refusal, od_FreeMode_refusal, .func (PySem.W.fnOf "refusal" "FreeMode.refusal" (defArgs s_FreeMode_refusal) (defBody s_FreeMode_refusal) (defScope s_FreeMode_refusal) .none kV_FreeMode_refusal dc_FreeMode_refusal pm_FreeMode_refusal an_FreeMode_refusal cd_FreeMode_refusal ct_FreeMode_refusal), sl_FreeMode_refusal⟩) (c_FreeMode_refusal : PySem.W.codeIn K cd_FreeMode_refusal "FreeMode.refusal" = true) (k_FreeMode_refusal : PySem.W.keepIn K (.ref f_FreeMode_refusal) = true)
    (kk_SavingMode_refusal : PySem.W.keepIn K (.ref f_SavingMode_refusal) = true)
    (me1_SavingMode_refusal : PySem.W.findIn K (.ref SavingMode) "refusal" = some (some (.ref f_SavingMode_refusal))) (me2_SavingMode_refusal : PySem.W.isFn K (.ref f_SavingMode_refusal) = true)
    (l_SavingMode_refusal : K.lookup f_SavingMode_refusal = some ⟨oc_SavingMode_refusal, od_SavingMode_refusal, .func (PySem.W.ksFn "refusal" "SavingMode.refusal" (defArgs s_SavingMode_refusal) (defBody s_SavingMode_refusal) (defScope s_SavingMode_refusal) .none kV_SavingMode_refusal dc_SavingMode_refusal pm_SavingMode_refusal an_SavingMode_refusal (.ref cda_SavingMode_refusal) ct_SavingMode_refusal cc_SavingMode_refusal), sl_SavingMode_refusal⟩) (c_SavingMode_refusal : PySem.W.codeIn K (.ref cda_SavingMode_refusal) "SavingMode.refusal" = true) (l2_SavingMode_refusal : K.lookup cda_SavingMode_refusal = some ⟨ccl_SavingMode_refusal, cdd_SavingMode_refusal, .fields cvs_SavingMode_refusal, ccs_SavingMode_refusal⟩) (l3_SavingMode_refusal : K.lookup cc_SavingMode_refusal = some ⟨cl_SavingMode_refusal_, cld_SavingMode_refusal, .cell (some (.ref SavingMode)), csl_SavingMode_refusal⟩) (ic_SavingMode_refusal : PySem.W.isClsIn K SavingMode = true) (gs_SavingMode_refusal : PySem.W.nsIn K mainGlobals "super" = some none) (op_SavingMode_refusal : PySem.W.nsIn K cStatics "thirdparty.any" = some none)
    (v2_SavingMode_refusal : cvs_SavingMode_refusal[2]? = some (.str fi_SavingMode_refusal tf_SavingMode_refusal)) (fl_SavingMode_refusal : ((P.main.file : Str) == fi_SavingMode_refusal) = true) (hd_SavingMode_refusal : ((defArgs s_SavingMode_refusal).posonlyargs ++ (defArgs s_SavingMode_refusal).args).head? = some ar_SavingMode_refusal) (ha_SavingMode_refusal : ar_SavingMode_refusal.arg = "self") (s0_SavingMode_refusal : (P.main.scope.names.lookup ("super" : Str)).isSome = false)
    (sm_SavingMode_refusal_SavingMode : PySem.W.mroIn K SavingMode (.ref SavingMode) = some true) (su_SavingMode_refusal_SavingMode : PySem.W.ks_superIn K SavingMode SavingMode "refusal" = some (some (.ref f_FreeMode_refusal)))
    (sm_SavingMode_refusal_GuardedMode : PySem.W.mroIn K GuardedMode (.ref SavingMode) = some true) (su_SavingMode_refusal_GuardedMode : PySem.W.ks_superIn K GuardedMode SavingMode "refusal" = some (some (.ref f_FreeMode_refusal)))
    (sm_SavingMode_refusal_CheckedMode : PySem.W.mroIn K CheckedMode (.ref SavingMode) = some true) (su_SavingMode_refusal_CheckedMode : PySem.W.ks_superIn K CheckedMode SavingMode "refusal" = some (some (.ref f_FreeMode_refusal)))
    (st_SavingMode_refusal : PySem.W.typeIn K (.ref f_FreeMode_refusal) = some (.type "function")) (sn_SavingMode_refusal : PySem.W.fnIn K f_FreeMode_refusal = true)
    (kk_GuardedMode_refusal : PySem.W.keepIn K (.ref f_GuardedMode_refusal) = true)
    (me1_GuardedMode_refusal : PySem.W.findIn K (.ref GuardedMode) "refusal" = some (some (.ref f_GuardedMode_refusal))) (me2_GuardedMode_refusal : PySem.W.isFn K (.ref f_GuardedMode_refusal) = true)
    (l_GuardedMode_refusal : K.lookup f_GuardedMode_refusal = some ⟨oc_GuardedMode_refusal, od_GuardedMode_refusal, .func (PySem.W.ksFn "refusal" "GuardedMode.refusal" (defArgs s_GuardedMode_refusal) (defBody s_GuardedMode_refusal) (defScope s_GuardedMode_refusal) .none kV_GuardedMode_refusal dc_GuardedMode_refusal pm_GuardedMode_refusal an_GuardedMode_refusal (.ref cda_GuardedMode_refusal) ct_GuardedMode_refusal cc_GuardedMode_refusal), sl_GuardedMode_refusal⟩) (c_GuardedMode_refusal : PySem.W.codeIn K (.ref cda_GuardedMode_refusal) "GuardedMode.refusal" = true) (l2_GuardedMode_refusal : K.lookup cda_GuardedMode_refusal = some ⟨ccl_GuardedMode_refusal, cdd_GuardedMode_refusal, .fields cvs_GuardedMode_refusal, ccs_GuardedMode_refusal⟩) (l3_GuardedMode_refusal : K.lookup cc_GuardedMode_refusal = some ⟨cl_GuardedMode_refusal_, cld_GuardedMode_refusal, .cell (some (.ref GuardedMode)), csl_GuardedMode_refusal⟩) (ic_GuardedMode_refusal : PySem.W.isClsIn K GuardedMode = true) (gs_GuardedMode_refusal : PySem.W.nsIn K mainGlobals "super" = some none) (op_GuardedMode_refusal : PySem.W.nsIn K cStatics "thirdparty.any" = some none)
    (v2_GuardedMode_refusal : cvs_GuardedMode_refusal[2]? = some (.str fi_GuardedMode_refusal tf_GuardedMode_refusal)) (fl_GuardedMode_refusal : ((P.main.file : Str) == fi_GuardedMode_refusal) = true) (hd_GuardedMode_refusal : ((defArgs s_GuardedMode_refusal).posonlyargs ++ (defArgs s_GuardedMode_refusal).args).head? = some ar_GuardedMode_refusal) (ha_GuardedMode_refusal : ar_GuardedMode_refusal.arg = "self") (s0_GuardedMode_refusal : (P.main.scope.names.lookup ("super" : Str)).isSome = false)
    (sm_GuardedMode_refusal_GuardedMode : PySem.W.mroIn K GuardedMode (.ref GuardedMode) = some true) (su_GuardedMode_refusal_GuardedMode : PySem.W.ks_superIn K GuardedMode GuardedMode "refusal" = some (some (.ref f_SavingMode_refusal)))
    (sm_GuardedMode_refusal_CheckedMode : PySem.W.mroIn K CheckedMode (.ref GuardedMode) = some true) (su_GuardedMode_refusal_CheckedMode : PySem.W.ks_superIn K CheckedMode GuardedMode "refusal" = some (some (.ref f_SavingMode_refusal)))
    (st_GuardedMode_refusal : PySem.W.typeIn K (.ref f_SavingMode_refusal) = some (.type "function")) (sn_GuardedMode_refusal : PySem.W.fnIn K f_SavingMode_refusal = true)
    (kk_CheckedMode_refusal : PySem.W.keepIn K (.ref f_CheckedMode_refusal) = true)
    (me1_CheckedMode_refusal : PySem.W.findIn K (.ref CheckedMode) "refusal" = some (some (.ref f_CheckedMode_refusal))) (me2_CheckedMode_refusal : PySem.W.isFn K (.ref f_CheckedMode_refusal) = true)
    (l_CheckedMode_refusal : K.lookup f_CheckedMode_refusal = some ⟨oc_CheckedMode_refusal, od_CheckedMode_refusal, .func (PySem.W.ksFn "refusal" "CheckedMode.refusal" (defArgs s_CheckedMode_refusal) (defBody s_CheckedMode_refusal) (defScope s_CheckedMode_refusal) .none kV_CheckedMode_refusal dc_CheckedMode_refusal pm_CheckedMode_refusal an_CheckedMode_refusal (.ref cda_CheckedMode_refusal) ct_CheckedMode_refusal cc_CheckedMode_refusal), sl_CheckedMode_refusal⟩) (c_CheckedMode_refusal : PySem.W.codeIn K (.ref cda_CheckedMode_refusal) "CheckedMode.refusal" = true) (l2_CheckedMode_refusal : K.lookup cda_CheckedMode_refusal = some ⟨ccl_CheckedMode_refusal, cdd_CheckedMode_refusal, .fields cvs_CheckedMode_refusal, ccs_CheckedMode_refusal⟩) (l3_CheckedMode_refusal : K.lookup cc_CheckedMode_refusal = some ⟨cl_CheckedMode_refusal_, cld_CheckedMode_refusal, .cell (some (.ref CheckedMode)), csl_CheckedMode_refusal⟩) (ic_CheckedMode_refusal : PySem.W.isClsIn K CheckedMode = true) (gs_CheckedMode_refusal : PySem.W.nsIn K mainGlobals "super" = some none) (op_CheckedMode_refusal : PySem.W.nsIn K cStatics "thirdparty.any" = some none)
    (v2_CheckedMode_refusal : cvs_CheckedMode_refusal[2]? = some (.str fi_CheckedMode_refusal tf_CheckedMode_refusal)) (fl_CheckedMode_refusal : ((P.main.file : Str) == fi_CheckedMode_refusal) = true) (hd_CheckedMode_refusal : ((defArgs s_CheckedMode_refusal).posonlyargs ++ (defArgs s_CheckedMode_refusal).args).head? = some ar_CheckedMode_refusal) (ha_CheckedMode_refusal : ar_CheckedMode_refusal.arg = "self") (s0_CheckedMode_refusal : (P.main.scope.names.lookup ("super" : Str)).isSome = false)
    (sm_CheckedMode_refusal_CheckedMode : PySem.W.mroIn K CheckedMode (.ref CheckedMode) = some true) (su_CheckedMode_refusal_CheckedMode : PySem.W.ks_superIn K CheckedMode CheckedMode "refusal" = some (some (.ref f_GuardedMode_refusal)))
    (st_CheckedMode_refusal : PySem.W.typeIn K (.ref f_GuardedMode_refusal) = some (.type "function")) (sn_CheckedMode_refusal : PySem.W.fnIn K f_GuardedMode_refusal = true)
    (a_LinkError : PySem.W.nsIn K mainGlobals "LinkError" = some (some (.ref LinkError)))
    (a_LogError : PySem.W.nsIn K mainGlobals "LogError" = some (some (.ref LogError)))
    (a_BadOperation : PySem.W.nsIn K mainGlobals "BadOperation" = some (some (.ref BadOperation)))
    (a_Illegal : PySem.W.nsIn K mainGlobals "Illegal" = some (some (.ref Illegal)))
    (a_BadSize : PySem.W.nsIn K mainGlobals "BadSize" = some (some (.ref BadSize)))
    (a_BadNode : PySem.W.nsIn K mainGlobals "BadNode" = some (some (.ref BadNode)))
    (a_BadMode : PySem.W.nsIn K mainGlobals "BadMode" = some (some (.ref BadMode)))
    (a_BadDump : PySem.W.nsIn K mainGlobals "BadDump" = some (some (.ref BadDump)))
    (d_LinkError : DC K LinkError)
    (d_LogError : DC K LogError)
    (d_BadOperation : DC K BadOperation)
    (d_Illegal : DC K Illegal)
    (d_BadSize : DC K BadSize)
    (d_BadNode : DC K BadNode)
    (d_BadMode : DC K BadMode)
    (d_BadDump : DC K BadDump)
    (x_BadOperation : LkX.ExcTxt P K BadOperation i_BadOperation ["operation", "index"])
    (e_BadOperation : ExcC K BadOperation ∧ XfC K BadOperation)
    (s_BadOperation_LinkError : PySem.W.subIn K (.ref BadOperation) (.ref LinkError) = some true)
    (s_BadOperation_LogError : PySem.W.subIn K (.ref BadOperation) (.ref LogError) = some true)
    (s_BadOperation_BadOperation : PySem.W.subIn K (.ref BadOperation) (.ref BadOperation) = some true)
    (s_BadOperation_Illegal : PySem.W.subIn K (.ref BadOperation) (.ref Illegal) = some false)
    (s_BadOperation_BadSize : PySem.W.subIn K (.ref BadOperation) (.ref BadSize) = some false)
    (s_BadOperation_BadNode : PySem.W.subIn K (.ref BadOperation) (.ref BadNode) = some false)
    (s_BadOperation_BadMode : PySem.W.subIn K (.ref BadOperation) (.ref BadMode) = some false)
    (s_BadOperation_BadDump : PySem.W.subIn K (.ref BadOperation) (.ref BadDump) = some false)
    (x_Illegal : LkX.ExcTxt P K Illegal i_Illegal ["operation", "index"])
    (e_Illegal : ExcC K Illegal ∧ XfC K Illegal)
    (s_Illegal_LinkError : PySem.W.subIn K (.ref Illegal) (.ref LinkError) = some true)
    (s_Illegal_LogError : PySem.W.subIn K (.ref Illegal) (.ref LogError) = some true)
    (s_Illegal_BadOperation : PySem.W.subIn K (.ref Illegal) (.ref BadOperation) = some false)
    (s_Illegal_Illegal : PySem.W.subIn K (.ref Illegal) (.ref Illegal) = some true)
    (s_Illegal_BadSize : PySem.W.subIn K (.ref Illegal) (.ref BadSize) = some false)
    (s_Illegal_BadNode : PySem.W.subIn K (.ref Illegal) (.ref BadNode) = some false)
    (s_Illegal_BadMode : PySem.W.subIn K (.ref Illegal) (.ref BadMode) = some false)
    (s_Illegal_BadDump : PySem.W.subIn K (.ref Illegal) (.ref BadDump) = some false)
    (x_BadSize : LkX.ExcTxt P K BadSize i_BadSize ["size"])
    (e_BadSize : ExcC K BadSize ∧ XfC K BadSize)
    (s_BadSize_LinkError : PySem.W.subIn K (.ref BadSize) (.ref LinkError) = some true)
    (s_BadSize_LogError : PySem.W.subIn K (.ref BadSize) (.ref LogError) = some false)
    (s_BadSize_BadOperation : PySem.W.subIn K (.ref BadSize) (.ref BadOperation) = some false)
    (s_BadSize_Illegal : PySem.W.subIn K (.ref BadSize) (.ref Illegal) = some false)
    (s_BadSize_BadSize : PySem.W.subIn K (.ref BadSize) (.ref BadSize) = some true)
    (s_BadSize_BadNode : PySem.W.subIn K (.ref BadSize) (.ref BadNode) = some false)
    (s_BadSize_BadMode : PySem.W.subIn K (.ref BadSize) (.ref BadMode) = some false)
    (s_BadSize_BadDump : PySem.W.subIn K (.ref BadSize) (.ref BadDump) = some false)
    (x_BadNode : LkX.ExcTxt P K BadNode i_BadNode ["node"])
    (e_BadNode : ExcC K BadNode ∧ XfC K BadNode)
    (s_BadNode_LinkError : PySem.W.subIn K (.ref BadNode) (.ref LinkError) = some true)
    (s_BadNode_LogError : PySem.W.subIn K (.ref BadNode) (.ref LogError) = some false)
    (s_BadNode_BadOperation : PySem.W.subIn K (.ref BadNode) (.ref BadOperation) = some false)
    (s_BadNode_Illegal : PySem.W.subIn K (.ref BadNode) (.ref Illegal) = some false)
    (s_BadNode_BadSize : PySem.W.subIn K (.ref BadNode) (.ref BadSize) = some false)
    (s_BadNode_BadNode : PySem.W.subIn K (.ref BadNode) (.ref BadNode) = some true)
    (s_BadNode_BadMode : PySem.W.subIn K (.ref BadNode) (.ref BadMode) = some false)
    (s_BadNode_BadDump : PySem.W.subIn K (.ref BadNode) (.ref BadDump) = some false)
    (x_BadMode : LkX.ExcTxt P K BadMode i_BadMode ["name"])
    (e_BadMode : ExcC K BadMode ∧ XfC K BadMode)
    (s_BadMode_LinkError : PySem.W.subIn K (.ref BadMode) (.ref LinkError) = some true)
    (s_BadMode_LogError : PySem.W.subIn K (.ref BadMode) (.ref LogError) = some false)
    (s_BadMode_BadOperation : PySem.W.subIn K (.ref BadMode) (.ref BadOperation) = some false)
    (s_BadMode_Illegal : PySem.W.subIn K (.ref BadMode) (.ref Illegal) = some false)
    (s_BadMode_BadSize : PySem.W.subIn K (.ref BadMode) (.ref BadSize) = some false)
    (s_BadMode_BadNode : PySem.W.subIn K (.ref BadMode) (.ref BadNode) = some false)
    (s_BadMode_BadMode : PySem.W.subIn K (.ref BadMode) (.ref BadMode) = some true)
    (s_BadMode_BadDump : PySem.W.subIn K (.ref BadMode) (.ref BadDump) = some false)
    (x_BadDump : LkX.ExcTxt P K BadDump i_BadDump ["part"])
    (e_BadDump : ExcC K BadDump ∧ XfC K BadDump)
    (s_BadDump_LinkError : PySem.W.subIn K (.ref BadDump) (.ref LinkError) = some true)
    (s_BadDump_LogError : PySem.W.subIn K (.ref BadDump) (.ref LogError) = some false)
    (s_BadDump_BadOperation : PySem.W.subIn K (.ref BadDump) (.ref BadOperation) = some false)
    (s_BadDump_Illegal : PySem.W.subIn K (.ref BadDump) (.ref Illegal) = some false)
    (s_BadDump_BadSize : PySem.W.subIn K (.ref BadDump) (.ref BadSize) = some false)
    (s_BadDump_BadNode : PySem.W.subIn K (.ref BadDump) (.ref BadNode) = some false)
    (s_BadDump_BadMode : PySem.W.subIn K (.ref BadDump) (.ref BadMode) = some false)
    (s_BadDump_BadDump : PySem.W.subIn K (.ref BadDump) (.ref BadDump) = some true)
    (a_check_size : PySem.W.nsIn K mainGlobals "check_size" = some (some (.ref f_check_size))) (l_check_size : K.lookup f_check_size = some ⟨oc_check_size, od_check_size, .func (PySem.W.fnOf "check_size" "check_size" (defArgs s_check_size) (defBody s_check_size) (defScope s_check_size) .none kV_check_size dc_check_size pm_check_size an_check_size cd_check_size ct_check_size), sl_check_size⟩) (c_check_size : PySem.W.codeIn K cd_check_size "check_size" = true) (k_check_size : PySem.W.keepIn K (.ref f_check_size) = true)
    (a_check_operation : PySem.W.nsIn K mainGlobals "check_operation" = some (some (.ref f_check_operation))) (l_check_operation : K.lookup f_check_operation = some ⟨oc_check_operation, od_check_operation, .func (PySem.W.fnOf "check_operation" "check_operation" (defArgs s_check_operation) (defBody s_check_operation) (defScope s_check_operation) .none kV_check_operation dc_check_operation pm_check_operation an_check_operation cd_check_operation ct_check_operation), sl_check_operation⟩) (c_check_operation : PySem.W.codeIn K cd_check_operation "check_operation" = true) (k_check_operation : PySem.W.keepIn K (.ref f_check_operation) = true)
    (a_is_number : PySem.W.nsIn K mainGlobals "is_number" = some (some (.ref f_is_number))) (l_is_number : K.lookup f_is_number = some ⟨oc_is_number, od_is_number, .func (PySem.W.fnOf "is_number" "is_number" (defArgs s_is_number) (defBody s_is_number) (defScope s_is_number) .none kV_is_number dc_is_number pm_is_number an_is_number cd_is_number ct_is_number), sl_is_number⟩) (c_is_number : PySem.W.codeIn K cd_is_number "is_number" = true) (k_is_number : PySem.W.keepIn K (.ref f_is_number) = true)
    (a_left_holds : PySem.W.nsIn K mainGlobals "left_holds" = some (some (.ref f_left_holds))) (l_left_holds : K.lookup f_left_holds = some ⟨oc_left_holds, od_left_holds, .func (PySem.W.fnOf "left_holds" "left_holds" (defArgs s_left_holds) (defBody s_left_holds) (defScope s_left_holds) .none kV_left_holds dc_left_holds pm_left_holds an_left_holds cd_left_holds ct_left_holds), sl_left_holds⟩) (c_left_holds : PySem.W.codeIn K cd_left_holds "left_holds" = true) (k_left_holds : PySem.W.keepIn K (.ref f_left_holds) = true)
    (a_right_holds : PySem.W.nsIn K mainGlobals "right_holds" = some (some (.ref f_right_holds))) (l_right_holds : K.lookup f_right_holds = some ⟨oc_right_holds, od_right_holds, .func (PySem.W.fnOf "right_holds" "right_holds" (defArgs s_right_holds) (defBody s_right_holds) (defScope s_right_holds) .none kV_right_holds dc_right_holds pm_right_holds an_right_holds cd_right_holds ct_right_holds), sl_right_holds⟩) (c_right_holds : PySem.W.codeIn K cd_right_holds "right_holds" = true) (k_right_holds : PySem.W.keepIn K (.ref f_right_holds) = true)
    (a_foreign_writes : PySem.W.nsIn K mainGlobals "foreign_writes" = some (some (.ref f_foreign_writes))) (l_foreign_writes : K.lookup f_foreign_writes = some ⟨oc_foreign_writes, od_foreign_writes, .func (PySem.W.fnOf "foreign_writes" "foreign_writes" (defArgs s_foreign_writes) (defBody s_foreign_writes) (defScope s_foreign_writes) .none kV_foreign_writes dc_foreign_writes pm_foreign_writes an_foreign_writes cd_foreign_writes ct_foreign_writes), sl_foreign_writes⟩) (c_foreign_writes : PySem.W.codeIn K cd_foreign_writes "foreign_writes" = true) (k_foreign_writes : PySem.W.keepIn K (.ref f_foreign_writes) = true)
    (a__numbers : PySem.W.nsIn K mainGlobals "_numbers" = some (some (.ref f__numbers))) (l__numbers : K.lookup f__numbers = some ⟨oc__numbers, od__numbers, .func (PySem.W.fnOf "_numbers" "_numbers" (defArgs s__numbers) (defBody s__numbers) (defScope s__numbers) .none kV__numbers dc__numbers pm__numbers an__numbers cd__numbers ct__numbers), sl__numbers⟩) (c__numbers : PySem.W.codeIn K cd__numbers "_numbers" = true) (k__numbers : PySem.W.keepIn K (.ref f__numbers) = true)
    (a__read_rights : PySem.W.nsIn K mainGlobals "_read_rights" = some (some (.ref f__read_rights))) (l__read_rights : K.lookup f__read_rights = some ⟨oc__read_rights, od__read_rights, .func (PySem.W.fnOf "_read_rights" "_read_rights" (defArgs s__read_rights) (defBody s__read_rights) (defScope s__read_rights) .none kV__read_rights dc__read_rights pm__read_rights an__read_rights cd__read_rights ct__read_rights), sl__read_rights⟩) (c__read_rights : PySem.W.codeIn K cd__read_rights "_read_rights" = true) (k__read_rights : PySem.W.keepIn K (.ref f__read_rights) = true)
    (a__read_lefts : PySem.W.nsIn K mainGlobals "_read_lefts" = some (some (.ref f__read_lefts))) (l__read_lefts : K.lookup f__read_lefts = some ⟨oc__read_lefts, od__read_lefts, .func (PySem.W.fnOf "_read_lefts" "_read_lefts" (defArgs s__read_lefts) (defBody s__read_lefts) (defScope s__read_lefts) .none kV__read_lefts dc__read_lefts pm__read_lefts an__read_lefts cd__read_lefts ct__read_lefts), sl__read_lefts⟩) (c__read_lefts : PySem.W.codeIn K cd__read_lefts "_read_lefts" = true) (k__read_lefts : PySem.W.keepIn K (.ref f__read_lefts) = true)
    (a__read_outs : PySem.W.nsIn K mainGlobals "_read_outs" = some (some (.ref f__read_outs))) (l__read_outs : K.lookup f__read_outs = some ⟨oc__read_outs, od__read_outs, .func (PySem.W.fnOf "_read_outs" "_read_outs" (defArgs s__read_outs) (defBody s__read_outs) (defScope s__read_outs) .none kV__read_outs dc__read_outs pm__read_outs an__read_outs cd__read_outs ct__read_outs), sl__read_outs⟩) (c__read_outs : PySem.W.codeIn K cd__read_outs "_read_outs" = true) (k__read_outs : PySem.W.keepIn K (.ref f__read_outs) = true)
    (a_check_mode : PySem.W.nsIn K mainGlobals "check_mode" = some (some (.ref f_check_mode))) (l_check_mode : K.lookup f_check_mode = some ⟨oc_check_mode, od_check_mode, .func (PySem.W.fnOf "check_mode" "check_mode" (defArgs s_check_mode) (defBody s_check_mode) (defScope s_check_mode) .none kV_check_mode dc_check_mode pm_check_mode an_check_mode cd_check_mode ct_check_mode), sl_check_mode⟩) (c_check_mode : PySem.W.codeIn K cd_check_mode "check_mode" = true) (k_check_mode : PySem.W.keepIn K (.ref f_check_mode) = true)
    (a__check_legal : PySem.W.nsIn K mainGlobals "_check_legal" = some (some (.ref f__check_legal))) (l__check_legal : K.lookup f__check_legal = some ⟨oc__check_legal, od__check_legal, .func (PySem.W.fnOf "_check_legal" "_check_legal" (defArgs s__check_legal) (defBody s__check_legal) (defScope s__check_legal) .none kV__check_legal dc__check_legal pm__check_legal an__check_legal cd__check_legal ct__check_legal), sl__check_legal⟩) (c__check_legal : PySem.W.codeIn K cd__check_legal "_check_legal" = true) (k__check_legal : PySem.W.keepIn K (.ref f__check_legal) = true)
    (a__last_holders : PySem.W.nsIn K mainGlobals "_last_holders" = some (some (.ref f__last_holders))) (l__last_holders : K.lookup f__last_holders = some ⟨oc__last_holders, od__last_holders, .func (PySem.W.fnOf "_last_holders" "_last_holders" (defArgs s__last_holders) (defBody s__last_holders) (defScope s__last_holders) .none kV__last_holders dc__last_holders pm__last_holders an__last_holders cd__last_holders ct__last_holders), sl__last_holders⟩) (c__last_holders : PySem.W.codeIn K cd__last_holders "_last_holders" = true) (k__last_holders : PySem.W.keepIn K (.ref f__last_holders) = true)
    (a__loses_gap : PySem.W.nsIn K mainGlobals "_loses_gap" = some (some (.ref f__loses_gap))) (l__loses_gap : K.lookup f__loses_gap = some ⟨oc__loses_gap, od__loses_gap, .func (PySem.W.fnOf "_loses_gap" "_loses_gap" (defArgs s__loses_gap) (defBody s__loses_gap) (defScope s__loses_gap) .none kV__loses_gap dc__loses_gap pm__loses_gap an__loses_gap cd__loses_gap ct__loses_gap), sl__loses_gap⟩) (c__loses_gap : PySem.W.codeIn K cd__loses_gap "_loses_gap" = true) (k__loses_gap : PySem.W.keepIn K (.ref f__loses_gap) = true)
    (a__leaves_sole_holder : PySem.W.nsIn K mainGlobals "_leaves_sole_holder" = some (some (.ref f__leaves_sole_holder))) (l__leaves_sole_holder : K.lookup f__leaves_sole_holder = some ⟨oc__leaves_sole_holder, od__leaves_sole_holder, .func (PySem.W.fnOf "_leaves_sole_holder" "_leaves_sole_holder" (defArgs s__leaves_sole_holder) (defBody s__leaves_sole_holder) (defScope s__leaves_sole_holder) .none kV__leaves_sole_holder dc__leaves_sole_holder pm__leaves_sole_holder an__leaves_sole_holder cd__leaves_sole_holder ct__leaves_sole_holder), sl__leaves_sole_holder⟩) (c__leaves_sole_holder : PySem.W.codeIn K cd__leaves_sole_holder "_leaves_sole_holder" = true) (k__leaves_sole_holder : PySem.W.keepIn K (.ref f__leaves_sole_holder) = true)
    (a__is_local : PySem.W.nsIn K mainGlobals "_is_local" = some (some (.ref f__is_local))) (l__is_local : K.lookup f__is_local = some ⟨oc__is_local, od__is_local, .func (PySem.W.fnOf "_is_local" "_is_local" (defArgs s__is_local) (defBody s__is_local) (defScope s__is_local) .none kV__is_local dc__is_local pm__is_local an__is_local cd__is_local ct__is_local), sl__is_local⟩) (c__is_local : PySem.W.codeIn K cd__is_local "_is_local" = true) (k__is_local : PySem.W.keepIn K (.ref f__is_local) = true)
    (a_mode_named : PySem.W.nsIn K mainGlobals "mode_named" = some (some (.ref f_mode_named))) (l_mode_named : K.lookup f_mode_named = some ⟨oc_mode_named, od_mode_named, .func (PySem.W.fnOf "mode_named" "mode_named" (defArgs s_mode_named) (defBody s_mode_named) (defScope s_mode_named) .none kV_mode_named dc_mode_named pm_mode_named an_mode_named cd_mode_named ct_mode_named), sl_mode_named⟩) (c_mode_named : PySem.W.codeIn K cd_mode_named "mode_named" = true) (k_mode_named : PySem.W.keepIn K (.ref f_mode_named) = true)
    (a_admits : PySem.W.nsIn K mainGlobals "admits" = some (some (.ref f_admits))) (l_admits : K.lookup f_admits = some ⟨oc_admits, od_admits, .func (PySem.W.fnOf "admits" "admits" (defArgs s_admits) (defBody s_admits) (defScope s_admits) .none (.ref D_admits) dc_admits pm_admits an_admits cd_admits ct_admits), sl_admits⟩) (c_admits : PySem.W.codeIn K cd_admits "admits" = true) (k_admits : PySem.W.keepIn K (.ref f_admits) = true)
    (kd_admits_mode : PySem.W.nsIn K D_admits "mode" = some (some (.str "free" tk_admits_mode)))
    (a_admitted : PySem.W.nsIn K mainGlobals "admitted" = some (some (.ref f_admitted))) (l_admitted : K.lookup f_admitted = some ⟨oc_admitted, od_admitted, .func (PySem.W.fnOf "admitted" "admitted" (defArgs s_admitted) (defBody s_admitted) (defScope s_admitted) .none (.ref D_admitted) dc_admitted pm_admitted an_admitted cd_admitted ct_admitted), sl_admitted⟩) (c_admitted : PySem.W.codeIn K cd_admitted "admitted" = true) (k_admitted : PySem.W.keepIn K (.ref f_admitted) = true)
    (kd_admitted_mode : PySem.W.nsIn K D_admitted "mode" = some (some (.str "free" tk_admitted_mode)))
    (a__law_purse : PySem.W.nsIn K mainGlobals "_law_purse" = some (some (.ref f__law_purse))) (l__law_purse : K.lookup f__law_purse = some ⟨oc__law_purse, od__law_purse, .func (PySem.W.fnOf "_law_purse" "_law_purse" (defArgs s__law_purse) (defBody s__law_purse) (defScope s__law_purse) .none kV__law_purse dc__law_purse pm__law_purse an__law_purse cd__law_purse ct__law_purse), sl__law_purse⟩) (c__law_purse : PySem.W.codeIn K cd__law_purse "_law_purse" = true) (k__law_purse : PySem.W.keepIn K (.ref f__law_purse) = true)
    (a__law_take : PySem.W.nsIn K mainGlobals "_law_take" = some (some (.ref f__law_take))) (l__law_take : K.lookup f__law_take = some ⟨oc__law_take, od__law_take, .func (PySem.W.fnOf "_law_take" "_law_take" (defArgs s__law_take) (defBody s__law_take) (defScope s__law_take) .none kV__law_take dc__law_take pm__law_take an__law_take cd__law_take ct__law_take), sl__law_take⟩) (c__law_take : PySem.W.codeIn K cd__law_take "_law_take" = true) (k__law_take : PySem.W.keepIn K (.ref f__law_take) = true)
    (a__law_words : PySem.W.nsIn K mainGlobals "_law_words" = some (some (.ref f__law_words))) (l__law_words : K.lookup f__law_words = some ⟨oc__law_words, od__law_words, .func (PySem.W.fnOf "_law_words" "_law_words" (defArgs s__law_words) (defBody s__law_words) (defScope s__law_words) .none kV__law_words dc__law_words pm__law_words an__law_words cd__law_words ct__law_words), sl__law_words⟩) (c__law_words : PySem.W.codeIn K cd__law_words "_law_words" = true) (k__law_words : PySem.W.keepIn K (.ref f__law_words) = true)
    (a__law_is : PySem.W.nsIn K mainGlobals "_law_is" = some (some (.ref f__law_is))) (l__law_is : K.lookup f__law_is = some ⟨oc__law_is, od__law_is, .func (PySem.W.fnOf "_law_is" "_law_is" (defArgs s__law_is) (defBody s__law_is) (defScope s__law_is) .none kV__law_is dc__law_is pm__law_is an__law_is cd__law_is ct__law_is), sl__law_is⟩) (c__law_is : PySem.W.codeIn K cd__law_is "_law_is" = true) (k__law_is : PySem.W.keepIn K (.ref f__law_is) = true)
    (a__law_ints : PySem.W.nsIn K mainGlobals "_law_ints" = some (some (.ref f__law_ints))) (l__law_ints : K.lookup f__law_ints = some ⟨oc__law_ints, od__law_ints, .func (PySem.W.fnOf "_law_ints" "_law_ints" (defArgs s__law_ints) (defBody s__law_ints) (defScope s__law_ints) .none kV__law_ints dc__law_ints pm__law_ints an__law_ints cd__law_ints ct__law_ints), sl__law_ints⟩) (c__law_ints : PySem.W.codeIn K cd__law_ints "_law_ints" = true) (k__law_ints : PySem.W.keepIn K (.ref f__law_ints) = true)
    (a__law_truth : PySem.W.nsIn K mainGlobals "_law_truth" = some (some (.ref f__law_truth))) (l__law_truth : K.lookup f__law_truth = some ⟨oc__law_truth, od__law_truth, .func (PySem.W.fnOf "_law_truth" "_law_truth" (defArgs s__law_truth) (defBody s__law_truth) (defScope s__law_truth) .none kV__law_truth dc__law_truth pm__law_truth an__law_truth cd__law_truth ct__law_truth), sl__law_truth⟩) (c__law_truth : PySem.W.codeIn K cd__law_truth "_law_truth" = true) (k__law_truth : PySem.W.keepIn K (.ref f__law_truth) = true)
    (a__law_whole : PySem.W.nsIn K mainGlobals "_law_whole" = some (some (.ref f__law_whole))) (l__law_whole : K.lookup f__law_whole = some ⟨oc__law_whole, od__law_whole, .func (PySem.W.fnOf "_law_whole" "_law_whole" (defArgs s__law_whole) (defBody s__law_whole) (defScope s__law_whole) .none kV__law_whole dc__law_whole pm__law_whole an__law_whole cd__law_whole ct__law_whole), sl__law_whole⟩) (c__law_whole : PySem.W.codeIn K cd__law_whole "_law_whole" = true) (k__law_whole : PySem.W.keepIn K (.ref f__law_whole) = true)
    (a__law_operation : PySem.W.nsIn K mainGlobals "_law_operation" = some (some (.ref f__law_operation))) (l__law_operation : K.lookup f__law_operation = some ⟨oc__law_operation, od__law_operation, .func (PySem.W.fnOf "_law_operation" "_law_operation" (defArgs s__law_operation) (defBody s__law_operation) (defScope s__law_operation) .none kV__law_operation dc__law_operation pm__law_operation an__law_operation cd__law_operation ct__law_operation), sl__law_operation⟩) (c__law_operation : PySem.W.codeIn K cd__law_operation "_law_operation" = true) (k__law_operation : PySem.W.keepIn K (.ref f__law_operation) = true)
    (a__law_moved : PySem.W.nsIn K mainGlobals "_law_moved" = some (some (.ref f__law_moved))) (l__law_moved : K.lookup f__law_moved = some ⟨oc__law_moved, od__law_moved, .func (PySem.W.fnOf "_law_moved" "_law_moved" (defArgs s__law_moved) (defBody s__law_moved) (defScope s__law_moved) .none kV__law_moved dc__law_moved pm__law_moved an__law_moved cd__law_moved ct__law_moved), sl__law_moved⟩) (c__law_moved : PySem.W.codeIn K cd__law_moved "_law_moved" = true) (k__law_moved : PySem.W.keepIn K (.ref f__law_moved) = true)
    (a__law_dump : PySem.W.nsIn K mainGlobals "_law_dump" = some (some (.ref f__law_dump))) (l__law_dump : K.lookup f__law_dump = some ⟨oc__law_dump, od__law_dump, .func (PySem.W.fnOf "_law_dump" "_law_dump" (defArgs s__law_dump) (defBody s__law_dump) (defScope s__law_dump) .none kV__law_dump dc__law_dump pm__law_dump an__law_dump cd__law_dump ct__law_dump), sl__law_dump⟩) (c__law_dump : PySem.W.codeIn K cd__law_dump "_law_dump" = true) (k__law_dump : PySem.W.keepIn K (.ref f__law_dump) = true)
    (a__law_lost : PySem.W.nsIn K mainGlobals "_law_lost" = some (some (.ref f__law_lost))) (l__law_lost : K.lookup f__law_lost = some ⟨oc__law_lost, od__law_lost, .func (PySem.W.fnOf "_law_lost" "_law_lost" (defArgs s__law_lost) (defBody s__law_lost) (defScope s__law_lost) .none kV__law_lost dc__law_lost pm__law_lost an__law_lost cd__law_lost ct__law_lost), sl__law_lost⟩) (c__law_lost : PySem.W.codeIn K cd__law_lost "_law_lost" = true) (k__law_lost : PySem.W.keepIn K (.ref f__law_lost) = true)
    (a__law_refusing : PySem.W.nsIn K mainGlobals "_law_refusing" = some (some (.ref f__law_refusing))) (l__law_refusing : K.lookup f__law_refusing = some ⟨oc__law_refusing, od__law_refusing, .func (PySem.W.fnOf "_law_refusing" "_law_refusing" (defArgs s__law_refusing) (defBody s__law_refusing) (defScope s__law_refusing) .none kV__law_refusing dc__law_refusing pm__law_refusing an__law_refusing cd__law_refusing ct__law_refusing), sl__law_refusing⟩) (c__law_refusing : PySem.W.codeIn K cd__law_refusing "_law_refusing" = true) (k__law_refusing : PySem.W.keepIn K (.ref f__law_refusing) = true)
    (a__law_any : PySem.W.nsIn K mainGlobals "_law_any" = some (some (.ref f__law_any))) (l__law_any : K.lookup f__law_any = some ⟨oc__law_any, od__law_any, .func (PySem.W.fnOf "_law_any" "_law_any" (defArgs s__law_any) (defBody s__law_any) (defScope s__law_any) .none kV__law_any dc__law_any pm__law_any an__law_any cd__law_any ct__law_any), sl__law_any⟩) (c__law_any : PySem.W.codeIn K cd__law_any "_law_any" = true) (k__law_any : PySem.W.keepIn K (.ref f__law_any) = true)
    (a__law_run : PySem.W.nsIn K mainGlobals "_law_run" = some (some (.ref f__law_run))) (l__law_run : K.lookup f__law_run = some ⟨oc__law_run, od__law_run, .func (PySem.W.fnOf "_law_run" "_law_run" (defArgs s__law_run) (defBody s__law_run) (defScope s__law_run) .none kV__law_run dc__law_run pm__law_run an__law_run cd__law_run ct__law_run), sl__law_run⟩) (c__law_run : PySem.W.codeIn K cd__law_run "_law_run" = true) (k__law_run : PySem.W.keepIn K (.ref f__law_run) = true)
    (a__law_kinds : PySem.W.nsIn K mainGlobals "_law_kinds" = some (some (.ref f__law_kinds))) (l__law_kinds : K.lookup f__law_kinds = some ⟨oc__law_kinds, od__law_kinds, .func (PySem.W.fnOf "_law_kinds" "_law_kinds" (defArgs s__law_kinds) (defBody s__law_kinds) (defScope s__law_kinds) .none kV__law_kinds dc__law_kinds pm__law_kinds an__law_kinds cd__law_kinds ct__law_kinds), sl__law_kinds⟩) (c__law_kinds : PySem.W.codeIn K cd__law_kinds "_law_kinds" = true) (k__law_kinds : PySem.W.keepIn K (.ref f__law_kinds) = true)
    (a__law_asked : PySem.W.nsIn K mainGlobals "_law_asked" = some (some (.ref f__law_asked))) (l__law_asked : K.lookup f__law_asked = some ⟨oc__law_asked, od__law_asked, .func (PySem.W.fnOf "_law_asked" "_law_asked" (defArgs s__law_asked) (defBody s__law_asked) (defScope s__law_asked) .none kV__law_asked dc__law_asked pm__law_asked an__law_asked cd__law_asked ct__law_asked), sl__law_asked⟩) (c__law_asked : PySem.W.codeIn K cd__law_asked "_law_asked" = true) (k__law_asked : PySem.W.keepIn K (.ref f__law_asked) = true)
    (a__law_listed : PySem.W.nsIn K mainGlobals "_law_listed" = some (some (.ref f__law_listed))) (l__law_listed : K.lookup f__law_listed = some ⟨oc__law_listed, od__law_listed, .func (PySem.W.fnOf "_law_listed" "_law_listed" (defArgs s__law_listed) (defBody s__law_listed) (defScope s__law_listed) .none kV__law_listed dc__law_listed pm__law_listed an__law_listed cd__law_listed ct__law_listed), sl__law_listed⟩) (c__law_listed : PySem.W.codeIn K cd__law_listed "_law_listed" = true) (k__law_listed : PySem.W.keepIn K (.ref f__law_listed) = true)
    (a__law_wrong : PySem.W.nsIn K mainGlobals "_law_wrong" = some (some (.ref f__law_wrong))) (l__law_wrong : K.lookup f__law_wrong = some ⟨oc__law_wrong, od__law_wrong, .func (PySem.W.fnOf "_law_wrong" "_law_wrong" (defArgs s__law_wrong) (defBody s__law_wrong) (defScope s__law_wrong) .none kV__law_wrong dc__law_wrong pm__law_wrong an__law_wrong cd__law_wrong ct__law_wrong), sl__law_wrong⟩) (c__law_wrong : PySem.W.codeIn K cd__law_wrong "_law_wrong" = true) (k__law_wrong : PySem.W.keepIn K (.ref f__law_wrong) = true)
    (a__law_refused : PySem.W.nsIn K mainGlobals "_law_refused" = some (some (.ref f__law_refused))) (l__law_refused : K.lookup f__law_refused = some ⟨oc__law_refused, od__law_refused, .func (PySem.W.fnOf "_law_refused" "_law_refused" (defArgs s__law_refused) (defBody s__law_refused) (defScope s__law_refused) .none kV__law_refused dc__law_refused pm__law_refused an__law_refused cd__law_refused ct__law_refused), sl__law_refused⟩) (c__law_refused : PySem.W.codeIn K cd__law_refused "_law_refused" = true) (k__law_refused : PySem.W.keepIn K (.ref f__law_refused) = true)
    (a__law_barred : PySem.W.nsIn K mainGlobals "_law_barred" = some (some (.ref f__law_barred))) (l__law_barred : K.lookup f__law_barred = some ⟨oc__law_barred, od__law_barred, .func (PySem.W.fnOf "_law_barred" "_law_barred" (defArgs s__law_barred) (defBody s__law_barred) (defScope s__law_barred) .none kV__law_barred dc__law_barred pm__law_barred an__law_barred cd__law_barred ct__law_barred), sl__law_barred⟩) (c__law_barred : PySem.W.codeIn K cd__law_barred "_law_barred" = true) (k__law_barred : PySem.W.keepIn K (.ref f__law_barred) = true)
    (a__law_no_mode : PySem.W.nsIn K mainGlobals "_law_no_mode" = some (some (.ref f__law_no_mode))) (l__law_no_mode : K.lookup f__law_no_mode = some ⟨oc__law_no_mode, od__law_no_mode, .func (PySem.W.fnOf "_law_no_mode" "_law_no_mode" (defArgs s__law_no_mode) (defBody s__law_no_mode) (defScope s__law_no_mode) .none kV__law_no_mode dc__law_no_mode pm__law_no_mode an__law_no_mode cd__law_no_mode ct__law_no_mode), sl__law_no_mode⟩) (c__law_no_mode : PySem.W.codeIn K cd__law_no_mode "_law_no_mode" = true) (k__law_no_mode : PySem.W.keepIn K (.ref f__law_no_mode) = true)
    (a__law_text : PySem.W.nsIn K mainGlobals "_law_text" = some (some (.ref f__law_text))) (l__law_text : K.lookup f__law_text = some ⟨oc__law_text, od__law_text, .func (PySem.W.fnOf "_law_text" "_law_text" (defArgs s__law_text) (defBody s__law_text) (defScope s__law_text) .none kV__law_text dc__law_text pm__law_text an__law_text cd__law_text ct__law_text), sl__law_text⟩) (c__law_text : PySem.W.codeIn K cd__law_text "_law_text" = true) (k__law_text : PySem.W.keepIn K (.ref f__law_text) = true)
    (a__law_turn : PySem.W.nsIn K mainGlobals "_law_turn" = some (some (.ref f__law_turn))) (l__law_turn : K.lookup f__law_turn = some ⟨oc__law_turn, od__law_turn, .func (PySem.W.fnOf "_law_turn" "_law_turn" (defArgs s__law_turn) (defBody s__law_turn) (defScope s__law_turn) .none kV__law_turn dc__law_turn pm__law_turn an__law_turn cd__law_turn ct__law_turn), sl__law_turn⟩) (c__law_turn : PySem.W.codeIn K cd__law_turn "_law_turn" = true) (k__law_turn : PySem.W.keepIn K (.ref f__law_turn) = true)
    (a__law_led : PySem.W.nsIn K mainGlobals "_law_led" = some (some (.ref f__law_led))) (l__law_led : K.lookup f__law_led = some ⟨oc__law_led, od__law_led, .func (PySem.W.fnOf "_law_led" "_law_led" (defArgs s__law_led) (defBody s__law_led) (defScope s__law_led) .none kV__law_led dc__law_led pm__law_led an__law_led cd__law_led ct__law_led), sl__law_led⟩) (c__law_led : PySem.W.codeIn K cd__law_led "_law_led" = true) (k__law_led : PySem.W.keepIn K (.ref f__law_led) = true)
    (a_law : PySem.W.nsIn K mainGlobals "law" = some (some (.ref f_law))) (l_law : K.lookup f_law = some ⟨oc_law, od_law, .func (PySem.W.fnOf "law" "law" (defArgs s_law) (defBody s_law) (defScope s_law) .none kV_law dc_law pm_law an_law cd_law ct_law), sl_law⟩) (c_law : PySem.W.codeIn K cd_law "law" = true) (k_law : PySem.W.keepIn K (.ref f_law) = true)
    (b_ValueError : PySem.W.nsIn K mainGlobals "ValueError" = some none)
    (b_abs : PySem.W.nsIn K mainGlobals "abs" = some none)
    (b_enumerate : PySem.W.nsIn K mainGlobals "enumerate" = some none)
    (b_range : PySem.W.nsIn K mainGlobals "range" = some none)
    (b_list : PySem.W.nsIn K mainGlobals "list" = some none)
    (b_min : PySem.W.nsIn K mainGlobals "min" = some none)
    (b_int : PySem.W.nsIn K mainGlobals "int" = some none)
    (b_len : PySem.W.nsIn K mainGlobals "len" = some none)
    (b_isinstance : PySem.W.nsIn K mainGlobals "isinstance" = some none)
    (b_str : PySem.W.nsIn K mainGlobals "str" = some none)
    (b_max : PySem.W.nsIn K mainGlobals "max" = some none)
    (b_bool : PySem.W.nsIn K mainGlobals "bool" = some none)
    (b_super : PySem.W.nsIn K mainGlobals "super" = some none)
    (k_MOST_NODES : PySem.W.nsIn K mainGlobals "MOST_NODES" = some (some (.int 60 t_MOST_NODES)))
    (k_MOST_DIGITS : PySem.W.nsIn K mainGlobals "MOST_DIGITS" = some (some (.int 9 t_MOST_DIGITS)))
    (k_PARTS : PySem.W.nsIn K mainGlobals "PARTS" = some (some (.int 3 t_PARTS)))
    (k_MODES : PySem.W.nsIn K mainGlobals "MODES" = some (some (.ref kc_MODES))) (kl_MODES : K.lookup kc_MODES = some ⟨.type "tuple", kd_MODES, .seq ki_MODES kn_MODES, ks_MODES⟩) (kz_MODES : ki_MODES.size ≤ sizeLine) (kv_MODES : Vals ((["free", "saving", "guarded", "checked"] : List Str).map V.str) ki_MODES.toList)
    : ∃ fd : FuncData, (∀ (s : Shared) (v : Value), BindsTo s fd ⟨[v], []⟩ [("_law_script", v)]) ∧ ∀ base : Heap, K.In base → base.Ns mainGlobals mg → FnOk P w K mg base (L2N.CX P w) 14 fa fd ["_law_script"] (spL K) := by
  have e := hfa.symm.trans (PySem.W.mg_of X G a_law)
  cases e
  have mm_Links___init__ := fun_mk (st := s_Links___init__) l_Links___init__ c_Links___init__ k_Links___init__
  have mm_Links_built := fun_mk (st := s_Links_built) l_Links_built c_Links_built k_Links_built
  have mm_Links_read := fun_mk (st := s_Links_read) l_Links_read c_Links_read k_Links_read
  have mm_Links_left := fun_mk (st := s_Links_left) l_Links_left c_Links_left k_Links_left
  have mm_Links_right := fun_mk (st := s_Links_right) l_Links_right c_Links_right k_Links_right
  have mm_Links_is_out := fun_mk (st := s_Links_is_out) l_Links_is_out c_Links_is_out k_Links_is_out
  have mm_Links_operation_on := fun_mk (st := s_Links_operation_on) l_Links_operation_on c_Links_operation_on k_Links_operation_on
  have mm_Links_apply := fun_mk (st := s_Links_apply) l_Links_apply c_Links_apply k_Links_apply
  have mm_Links_apply_at := fun_mk (st := s_Links_apply_at) l_Links_apply_at c_Links_apply_at k_Links_apply_at
  have mm_Links_dump := fun_mk (st := s_Links_dump) l_Links_dump c_Links_dump k_Links_dump
  have mm_Links__dump_parts := fun_mk (st := s_Links__dump_parts) l_Links__dump_parts c_Links__dump_parts k_Links__dump_parts
  have mm_FreeMode_refusal := fun_mk (st := s_FreeMode_refusal) l_FreeMode_refusal c_FreeMode_refusal k_FreeMode_refusal
  have m_check_size := nm_mk (st := s_check_size) X G a_check_size l_check_size c_check_size k_check_size
  have m_check_operation := nm_mk (st := s_check_operation) X G a_check_operation l_check_operation c_check_operation k_check_operation
  have m_is_number := nm_mk (st := s_is_number) X G a_is_number l_is_number c_is_number k_is_number
  have m_left_holds := nm_mk (st := s_left_holds) X G a_left_holds l_left_holds c_left_holds k_left_holds
  have m_right_holds := nm_mk (st := s_right_holds) X G a_right_holds l_right_holds c_right_holds k_right_holds
  have m_foreign_writes := nm_mk (st := s_foreign_writes) X G a_foreign_writes l_foreign_writes c_foreign_writes k_foreign_writes
  have m__numbers := nm_mk (st := s__numbers) X G a__numbers l__numbers c__numbers k__numbers
  have m__read_rights := nm_mk (st := s__read_rights) X G a__read_rights l__read_rights c__read_rights k__read_rights
  have m__read_lefts := nm_mk (st := s__read_lefts) X G a__read_lefts l__read_lefts c__read_lefts k__read_lefts
  have m__read_outs := nm_mk (st := s__read_outs) X G a__read_outs l__read_outs c__read_outs k__read_outs
  have m_check_mode := nm_mk (st := s_check_mode) X G a_check_mode l_check_mode c_check_mode k_check_mode
  have m__check_legal := nm_mk (st := s__check_legal) X G a__check_legal l__check_legal c__check_legal k__check_legal
  have m__last_holders := nm_mk (st := s__last_holders) X G a__last_holders l__last_holders c__last_holders k__last_holders
  have m__loses_gap := nm_mk (st := s__loses_gap) X G a__loses_gap l__loses_gap c__loses_gap k__loses_gap
  have m__leaves_sole_holder := nm_mk (st := s__leaves_sole_holder) X G a__leaves_sole_holder l__leaves_sole_holder c__leaves_sole_holder k__leaves_sole_holder
  have m__is_local := nm_mk (st := s__is_local) X G a__is_local l__is_local c__is_local k__is_local
  have m_mode_named := nm_mk (st := s_mode_named) X G a_mode_named l_mode_named c_mode_named k_mode_named
  have m_admits : FunD K "admits" "admits" (defArgs s_admits) (defBody s_admits) (defScope s_admits) [] [("mode", .str "free")] f_admits _ := ⟨⟨_, _, _, _, _, _, _, _, _, _, rfl, l_admits, c_admits, .inl ⟨rfl, rfl⟩, .inr ⟨_, rfl, fun q hq => by simp only [List.mem_cons, List.mem_nil_iff, or_false] at hq; subst hq; · exact ⟨_, kd_admits_mode, ⟨_, rfl⟩⟩⟩⟩, k_admits⟩
  have kw_admits : KwOk K _ ["links", "operation", "mode"] 2 ["mode"] [.str "free"] := kwOk_of m_admits (by simp) (by decide) (fun D doc pm an cdv ct us ks h1 h2 => match us, ks, h1, h2 with | [_, _], [_], _, _ => ⟨_, _, _, _, _, _, rfl, rfl, rfl⟩) (fun D doc pm an cdv ct us ws h1 h2 => match us, ws, h1, h2 with | [_, _], [_], _, _ => rfl)
  have m_admitted : FunD K "admitted" "admitted" (defArgs s_admitted) (defBody s_admitted) (defScope s_admitted) [] [("mode", .str "free")] f_admitted _ := ⟨⟨_, _, _, _, _, _, _, _, _, _, rfl, l_admitted, c_admitted, .inl ⟨rfl, rfl⟩, .inr ⟨_, rfl, fun q hq => by simp only [List.mem_cons, List.mem_nil_iff, or_false] at hq; subst hq; · exact ⟨_, kd_admitted_mode, ⟨_, rfl⟩⟩⟩⟩, k_admitted⟩
  have kw_admitted : KwOk K _ ["links", "mode"] 1 ["mode"] [.str "free"] := kwOk_of m_admitted (by simp) (by decide) (fun D doc pm an cdv ct us ks h1 h2 => match us, ks, h1, h2 with | [_], [_], _, _ => ⟨_, _, _, _, _, _, rfl, rfl, rfl⟩) (fun D doc pm an cdv ct us ws h1 h2 => match us, ws, h1, h2 with | [_], [_], _, _ => rfl)
  have m__law_purse := nm_mk (st := s__law_purse) X G a__law_purse l__law_purse c__law_purse k__law_purse
  have m__law_take := nm_mk (st := s__law_take) X G a__law_take l__law_take c__law_take k__law_take
  have m__law_words := nm_mk (st := s__law_words) X G a__law_words l__law_words c__law_words k__law_words
  have m__law_is := nm_mk (st := s__law_is) X G a__law_is l__law_is c__law_is k__law_is
  have m__law_ints := nm_mk (st := s__law_ints) X G a__law_ints l__law_ints c__law_ints k__law_ints
  have m__law_truth := nm_mk (st := s__law_truth) X G a__law_truth l__law_truth c__law_truth k__law_truth
  have m__law_whole := nm_mk (st := s__law_whole) X G a__law_whole l__law_whole c__law_whole k__law_whole
  have m__law_operation := nm_mk (st := s__law_operation) X G a__law_operation l__law_operation c__law_operation k__law_operation
  have m__law_moved := nm_mk (st := s__law_moved) X G a__law_moved l__law_moved c__law_moved k__law_moved
  have m__law_dump := nm_mk (st := s__law_dump) X G a__law_dump l__law_dump c__law_dump k__law_dump
  have m__law_lost := nm_mk (st := s__law_lost) X G a__law_lost l__law_lost c__law_lost k__law_lost
  have m__law_refusing := nm_mk (st := s__law_refusing) X G a__law_refusing l__law_refusing c__law_refusing k__law_refusing
  have m__law_any := nm_mk (st := s__law_any) X G a__law_any l__law_any c__law_any k__law_any
  have m__law_run := nm_mk (st := s__law_run) X G a__law_run l__law_run c__law_run k__law_run
  have m__law_kinds := nm_mk (st := s__law_kinds) X G a__law_kinds l__law_kinds c__law_kinds k__law_kinds
  have m__law_asked := nm_mk (st := s__law_asked) X G a__law_asked l__law_asked c__law_asked k__law_asked
  have m__law_listed := nm_mk (st := s__law_listed) X G a__law_listed l__law_listed c__law_listed k__law_listed
  have m__law_wrong := nm_mk (st := s__law_wrong) X G a__law_wrong l__law_wrong c__law_wrong k__law_wrong
  have m__law_refused := nm_mk (st := s__law_refused) X G a__law_refused l__law_refused c__law_refused k__law_refused
  have m__law_barred := nm_mk (st := s__law_barred) X G a__law_barred l__law_barred c__law_barred k__law_barred
  have m__law_no_mode := nm_mk (st := s__law_no_mode) X G a__law_no_mode l__law_no_mode c__law_no_mode k__law_no_mode
  have m__law_text := nm_mk (st := s__law_text) X G a__law_text l__law_text c__law_text k__law_text
  have m__law_turn := nm_mk (st := s__law_turn) X G a__law_turn l__law_turn c__law_turn k__law_turn
  have m__law_led := nm_mk (st := s__law_led) X G a__law_led l__law_led c__law_led k__law_led
  have m_law := nm_mk (st := s_law) X G a_law l_law c_law k_law
  have T : Txt P K mg ⟨f_check_size, f_check_operation, f_is_number, f_left_holds, f_right_holds, f_foreign_writes, f__numbers, f__read_rights, f__read_lefts, f__read_outs, f_check_mode, f__check_legal, f__last_holders, f__loses_gap, f__leaves_sole_holder, f__is_local, f_mode_named, f_admits, f_admitted, f__law_purse, f__law_take, f__law_words, f__law_is, f__law_ints, f__law_truth, f__law_whole, f__law_operation, f__law_moved, f__law_dump, f__law_lost, f__law_refusing, f__law_any, f__law_run, f__law_kinds, f__law_asked, f__law_listed, f__law_wrong, f__law_refused, f__law_barred, f__law_no_mode, f__law_text, f__law_turn, f__law_led, fa, f_Links___init__, f_Links_built, f_Links_read, f_Links_left, f_Links_right, f_Links_is_out, f_Links_operation_on, f_Links_apply, f_Links_apply_at, f_Links_dump, f_Links__dump_parts, f_FreeMode_refusal, f_SavingMode_refusal, f_GuardedMode_refusal, f_CheckedMode_refusal, Links, FreeMode, SavingMode, GuardedMode, CheckedMode, LinkError, LogError, BadOperation, i_BadOperation, Illegal, i_Illegal, BadSize, i_BadSize, BadNode, i_BadNode, BadMode, i_BadMode, BadDump, i_BadDump, kc_MODES⟩ :=
    { n_check_size := m_check_size.1,
      F_check_size := ⟨_, m_check_size.2, Fun.binds (ps := ["size"]) m_check_size.2 fun _ _ _ _ _ _ us hl => match us, hl with | [_], _ => rfl⟩,
      n_check_operation := m_check_operation.1,
      F_check_operation := ⟨_, m_check_operation.2, Fun.binds (ps := ["size", "operation", "index"]) m_check_operation.2 fun _ _ _ _ _ _ us hl => match us, hl with | [_, _, _], _ => rfl⟩,
      n_is_number := m_is_number.1,
      F_is_number := ⟨_, m_is_number.2, Fun.binds (ps := ["word"]) m_is_number.2 fun _ _ _ _ _ _ us hl => match us, hl with | [_], _ => rfl⟩,
      n_left_holds := m_left_holds.1,
      F_left_holds := ⟨_, m_left_holds.2, Fun.binds (ps := ["links", "gap"]) m_left_holds.2 fun _ _ _ _ _ _ us hl => match us, hl with | [_, _], _ => rfl⟩,
      n_right_holds := m_right_holds.1,
      F_right_holds := ⟨_, m_right_holds.2, Fun.binds (ps := ["links", "gap"]) m_right_holds.2 fun _ _ _ _ _ _ us hl => match us, hl with | [_, _], _ => rfl⟩,
      n_foreign_writes := m_foreign_writes.1,
      F_foreign_writes := ⟨_, m_foreign_writes.2, Fun.binds (ps := ["links", "operation"]) m_foreign_writes.2 fun _ _ _ _ _ _ us hl => match us, hl with | [_, _], _ => rfl⟩,
      n__numbers := m__numbers.1,
      F__numbers := ⟨_, m__numbers.2, Fun.binds (ps := ["part"]) m__numbers.2 fun _ _ _ _ _ _ us hl => match us, hl with | [_], _ => rfl⟩,
      n__read_rights := m__read_rights.1,
      F__read_rights := ⟨_, m__read_rights.2, Fun.binds (ps := ["part"]) m__read_rights.2 fun _ _ _ _ _ _ us hl => match us, hl with | [_], _ => rfl⟩,
      n__read_lefts := m__read_lefts.1,
      F__read_lefts := ⟨_, m__read_lefts.2, Fun.binds (ps := ["part", "size"]) m__read_lefts.2 fun _ _ _ _ _ _ us hl => match us, hl with | [_, _], _ => rfl⟩,
      n__read_outs := m__read_outs.1,
      F__read_outs := ⟨_, m__read_outs.2, Fun.binds (ps := ["part", "size"]) m__read_outs.2 fun _ _ _ _ _ _ us hl => match us, hl with | [_, _], _ => rfl⟩,
      n_check_mode := m_check_mode.1,
      F_check_mode := ⟨_, m_check_mode.2, Fun.binds (ps := ["mode"]) m_check_mode.2 fun _ _ _ _ _ _ us hl => match us, hl with | [_], _ => rfl⟩,
      n__check_legal := m__check_legal.1,
      F__check_legal := ⟨_, m__check_legal.2, Fun.binds (ps := ["links", "operation", "index"]) m__check_legal.2 fun _ _ _ _ _ _ us hl => match us, hl with | [_, _, _], _ => rfl⟩,
      n__last_holders := m__last_holders.1,
      F__last_holders := ⟨_, m__last_holders.2, Fun.binds (ps := ["links", "operation"]) m__last_holders.2 fun _ _ _ _ _ _ us hl => match us, hl with | [_, _], _ => rfl⟩,
      n__loses_gap := m__loses_gap.1,
      F__loses_gap := ⟨_, m__loses_gap.2, Fun.binds (ps := ["links", "operation"]) m__loses_gap.2 fun _ _ _ _ _ _ us hl => match us, hl with | [_, _], _ => rfl⟩,
      n__leaves_sole_holder := m__leaves_sole_holder.1,
      F__leaves_sole_holder := ⟨_, m__leaves_sole_holder.2, Fun.binds (ps := ["links", "operation"]) m__leaves_sole_holder.2 fun _ _ _ _ _ _ us hl => match us, hl with | [_, _], _ => rfl⟩,
      n__is_local := m__is_local.1,
      F__is_local := ⟨_, m__is_local.2, Fun.binds (ps := ["links", "operation"]) m__is_local.2 fun _ _ _ _ _ _ us hl => match us, hl with | [_, _], _ => rfl⟩,
      n_mode_named := m_mode_named.1,
      F_mode_named := ⟨_, m_mode_named.2, Fun.binds (ps := ["mode"]) m_mode_named.2 fun _ _ _ _ _ _ us hl => match us, hl with | [_], _ => rfl⟩,
      n_admits := ⟨PySem.W.mg_of X G a_admits, k_admits⟩,
      F_admits := ⟨_, m_admits, kw_admits⟩,
      n_admitted := ⟨PySem.W.mg_of X G a_admitted, k_admitted⟩,
      F_admitted := ⟨_, m_admitted, kw_admitted⟩,
      n__law_purse := m__law_purse.1,
      F__law_purse := ⟨_, m__law_purse.2, Fun.binds (ps := ["_law_script"]) m__law_purse.2 fun _ _ _ _ _ _ us hl => match us, hl with | [_], _ => rfl⟩,
      n__law_take := m__law_take.1,
      F__law_take := ⟨_, m__law_take.2, Fun.binds (ps := ["_law_purse_here", "_law_many"]) m__law_take.2 fun _ _ _ _ _ _ us hl => match us, hl with | [_, _], _ => rfl⟩,
      n__law_words := m__law_words.1,
      F__law_words := ⟨_, m__law_words.2, Fun.binds (ps := []) m__law_words.2 fun _ _ _ _ _ _ us hl => match us, hl with | [], _ => rfl⟩,
      n__law_is := m__law_is.1,
      F__law_is := ⟨_, m__law_is.2, Fun.binds (ps := ["_law_told", "_law_due"]) m__law_is.2 fun _ _ _ _ _ _ us hl => match us, hl with | [_, _], _ => rfl⟩,
      n__law_ints := m__law_ints.1,
      F__law_ints := ⟨_, m__law_ints.2, Fun.binds (ps := ["_law_told", "_law_due"]) m__law_ints.2 fun _ _ _ _ _ _ us hl => match us, hl with | [_, _], _ => rfl⟩,
      n__law_truth := m__law_truth.1,
      F__law_truth := ⟨_, m__law_truth.2, Fun.binds (ps := ["_law_told", "_law_due"]) m__law_truth.2 fun _ _ _ _ _ _ us hl => match us, hl with | [_, _], _ => rfl⟩,
      n__law_whole := m__law_whole.1,
      F__law_whole := ⟨_, m__law_whole.2, Fun.binds (ps := ["_law_size"]) m__law_whole.2 fun _ _ _ _ _ _ us hl => match us, hl with | [_], _ => rfl⟩,
      n__law_operation := m__law_operation.1,
      F__law_operation := ⟨_, m__law_operation.2, Fun.binds (ps := ["_law_book", "_law_node"]) m__law_operation.2 fun _ _ _ _ _ _ us hl => match us, hl with | [_, _], _ => rfl⟩,
      n__law_moved := m__law_moved.1,
      F__law_moved := ⟨_, m__law_moved.2, Fun.binds (ps := ["_law_book", "_law_node"]) m__law_moved.2 fun _ _ _ _ _ _ us hl => match us, hl with | [_, _], _ => rfl⟩,
      n__law_dump := m__law_dump.1,
      F__law_dump := ⟨_, m__law_dump.2, Fun.binds (ps := ["_law_book"]) m__law_dump.2 fun _ _ _ _ _ _ us hl => match us, hl with | [_], _ => rfl⟩,
      n__law_lost := m__law_lost.1,
      F__law_lost := ⟨_, m__law_lost.2, Fun.binds (ps := ["_law_book"]) m__law_lost.2 fun _ _ _ _ _ _ us hl => match us, hl with | [_], _ => rfl⟩,
      n__law_refusing := m__law_refusing.1,
      F__law_refusing := ⟨_, m__law_refusing.2, Fun.binds (ps := ["_law_book", "_law_node", "_law_word"]) m__law_refusing.2 fun _ _ _ _ _ _ us hl => match us, hl with | [_, _, _], _ => rfl⟩,
      n__law_any := m__law_any.1,
      F__law_any := ⟨_, m__law_any.2, Fun.binds (ps := ["_law_purse_here", "_law_size"]) m__law_any.2 fun _ _ _ _ _ _ us hl => match us, hl with | [_, _], _ => rfl⟩,
      n__law_run := m__law_run.1,
      F__law_run := ⟨_, m__law_run.2, Fun.binds (ps := ["_law_purse_here", "_law_book", "_law_shift", "_law_many", "_law_word"]) m__law_run.2 fun _ _ _ _ _ _ us hl => match us, hl with | [_, _, _, _, _], _ => rfl⟩,
      n__law_kinds := m__law_kinds.1,
      F__law_kinds := ⟨_, m__law_kinds.2, Fun.binds (ps := ["_law_purse_here"]) m__law_kinds.2 fun _ _ _ _ _ _ us hl => match us, hl with | [_], _ => rfl⟩,
      n__law_asked := m__law_asked.1,
      F__law_asked := ⟨_, m__law_asked.2, Fun.binds (ps := ["_law_book", "_law_held", "_law_kinds_here", "_law_nodes"]) m__law_asked.2 fun _ _ _ _ _ _ us hl => match us, hl with | [_, _, _, _], _ => rfl⟩,
      n__law_listed := m__law_listed.1,
      F__law_listed := ⟨_, m__law_listed.2, Fun.binds (ps := ["_law_book", "_law_held", "_law_word"]) m__law_listed.2 fun _ _ _ _ _ _ us hl => match us, hl with | [_, _, _], _ => rfl⟩,
      n__law_wrong := m__law_wrong.1,
      F__law_wrong := ⟨_, m__law_wrong.2, Fun.binds (ps := ["_law_purse_here", "_law_book"]) m__law_wrong.2 fun _ _ _ _ _ _ us hl => match us, hl with | [_, _], _ => rfl⟩,
      n__law_refused := m__law_refused.1,
      F__law_refused := ⟨_, m__law_refused.2, Fun.binds (ps := ["_law_kind", "_law_held", "_law_operation_here"]) m__law_refused.2 fun _ _ _ _ _ _ us hl => match us, hl with | [_, _, _], _ => rfl⟩,
      n__law_barred := m__law_barred.1,
      F__law_barred := ⟨_, m__law_barred.2, Fun.binds (ps := ["_law_held", "_law_operation_here", "_law_word"]) m__law_barred.2 fun _ _ _ _ _ _ us hl => match us, hl with | [_, _, _], _ => rfl⟩,
      n__law_no_mode := m__law_no_mode.1,
      F__law_no_mode := ⟨_, m__law_no_mode.2, Fun.binds (ps := ["_law_way", "_law_held", "_law_operation_here", "_law_wrong_here"]) m__law_no_mode.2 fun _ _ _ _ _ _ us hl => match us, hl with | [_, _, _, _], _ => rfl⟩,
      n__law_text := m__law_text.1,
      F__law_text := ⟨_, m__law_text.2, Fun.binds (ps := ["_law_purse_here"]) m__law_text.2 fun _ _ _ _ _ _ us hl => match us, hl with | [_], _ => rfl⟩,
      n__law_turn := m__law_turn.1,
      F__law_turn := ⟨_, m__law_turn.2, Fun.binds (ps := ["_law_purse_here", "_law_book", "_law_held", "_law_kinds_here", "_law_nodes"]) m__law_turn.2 fun _ _ _ _ _ _ us hl => match us, hl with | [_, _, _, _, _], _ => rfl⟩,
      n__law_led := m__law_led.1,
      F__law_led := ⟨_, m__law_led.2, Fun.binds (ps := ["_law_purse_here", "_law_reached", "_law_kinds_here"]) m__law_led.2 fun _ _ _ _ _ _ us hl => match us, hl with | [_, _, _], _ => rfl⟩,
      n_law := m_law.1,
      F_law := ⟨_, m_law.2, Fun.binds (ps := ["_law_script"]) m_law.2 fun _ _ _ _ _ _ us hl => match us, hl with | [_], _ => rfl⟩,
      c_Links := PySem.W.mg_of X G a_Links,
      cl_Links := cl_Links,
      rd_Links := rd_Links,
      mk_Links := ⟨mk1_Links, mk2_Links, mk3_Links, mk4_Links⟩,
      na_Links_size := na_Links_size,
      na_Links__lefts := na_Links__lefts,
      na_Links__rights := na_Links__rights,
      na_Links__flags := na_Links__flags,
      cv_Links_MOST := ⟨_, cv_Links_MOST, ⟨_, rfl⟩⟩,
      c_FreeMode := PySem.W.mg_of X G a_FreeMode,
      cl_FreeMode := cl_FreeMode,
      rd_FreeMode := rd_FreeMode,
      in_FreeMode := ⟨cl_FreeMode, ia_FreeMode, ib_FreeMode, ic_FreeMode, im_FreeMode, by unfold PySem.W.kitOne; rw [if_pos (by simp)]⟩,
      cv_FreeMode_NAME := ⟨_, cv_FreeMode_NAME, ⟨_, rfl⟩⟩,
      m0_FreeMode := ⟨m01_FreeMode, m02_FreeMode, m03_FreeMode⟩,
      kd_FreeMode_FreeMode := kit_cl kdi_FreeMode kdt_FreeMode kds_FreeMode_FreeMode kds_FreeMode_FreeMode,
      kd_SavingMode_FreeMode := kit_cl kdi_FreeMode kdt_FreeMode kds_SavingMode_SavingMode kds_SavingMode_FreeMode,
      kd_GuardedMode_FreeMode := kit_cl kdi_FreeMode kdt_FreeMode kds_GuardedMode_GuardedMode kds_GuardedMode_FreeMode,
      kd_CheckedMode_FreeMode := kit_cl kdi_FreeMode kdt_FreeMode kds_CheckedMode_CheckedMode kds_CheckedMode_FreeMode,
      cn_FreeMode_NAME := ⟨_, cnf_FreeMode_NAME, ⟨_, rfl⟩, cng_FreeMode_NAME, by decide +kernel⟩,
      c_SavingMode := PySem.W.mg_of X G a_SavingMode,
      cl_SavingMode := cl_SavingMode,
      rd_SavingMode := rd_SavingMode,
      in_SavingMode := ⟨cl_SavingMode, ia_SavingMode, ib_SavingMode, ic_SavingMode, im_SavingMode, by unfold PySem.W.kitOne; rw [if_pos (by simp)]⟩,
      cv_SavingMode_NAME := ⟨_, cv_SavingMode_NAME, ⟨_, rfl⟩⟩,
      m0_SavingMode := ⟨m01_SavingMode, m02_SavingMode, m03_SavingMode⟩,
      kd_FreeMode_SavingMode := kit_cl kdi_SavingMode kdt_SavingMode kds_FreeMode_FreeMode kds_FreeMode_SavingMode,
      kd_SavingMode_SavingMode := kit_cl kdi_SavingMode kdt_SavingMode kds_SavingMode_SavingMode kds_SavingMode_SavingMode,
      kd_GuardedMode_SavingMode := kit_cl kdi_SavingMode kdt_SavingMode kds_GuardedMode_GuardedMode kds_GuardedMode_SavingMode,
      kd_CheckedMode_SavingMode := kit_cl kdi_SavingMode kdt_SavingMode kds_CheckedMode_CheckedMode kds_CheckedMode_SavingMode,
      cn_SavingMode_NAME := ⟨_, cnf_SavingMode_NAME, ⟨_, rfl⟩, cng_SavingMode_NAME, by decide +kernel⟩,
      c_GuardedMode := PySem.W.mg_of X G a_GuardedMode,
      cl_GuardedMode := cl_GuardedMode,
      rd_GuardedMode := rd_GuardedMode,
      in_GuardedMode := ⟨cl_GuardedMode, ia_GuardedMode, ib_GuardedMode, ic_GuardedMode, im_GuardedMode, by unfold PySem.W.kitOne; rw [if_pos (by simp)]⟩,
      cv_GuardedMode_NAME := ⟨_, cv_GuardedMode_NAME, ⟨_, rfl⟩⟩,
      m0_GuardedMode := ⟨m01_GuardedMode, m02_GuardedMode, m03_GuardedMode⟩,
      kd_FreeMode_GuardedMode := kit_cl kdi_GuardedMode kdt_GuardedMode kds_FreeMode_FreeMode kds_FreeMode_GuardedMode,
      kd_SavingMode_GuardedMode := kit_cl kdi_GuardedMode kdt_GuardedMode kds_SavingMode_SavingMode kds_SavingMode_GuardedMode,
      kd_GuardedMode_GuardedMode := kit_cl kdi_GuardedMode kdt_GuardedMode kds_GuardedMode_GuardedMode kds_GuardedMode_GuardedMode,
      kd_CheckedMode_GuardedMode := kit_cl kdi_GuardedMode kdt_GuardedMode kds_CheckedMode_CheckedMode kds_CheckedMode_GuardedMode,
      cn_GuardedMode_NAME := ⟨_, cnf_GuardedMode_NAME, ⟨_, rfl⟩, cng_GuardedMode_NAME, by decide +kernel⟩,
      c_CheckedMode := PySem.W.mg_of X G a_CheckedMode,
      cl_CheckedMode := cl_CheckedMode,
      rd_CheckedMode := rd_CheckedMode,
      in_CheckedMode := ⟨cl_CheckedMode, ia_CheckedMode, ib_CheckedMode, ic_CheckedMode, im_CheckedMode, by unfold PySem.W.kitOne; rw [if_pos (by simp)]⟩,
      cv_CheckedMode_NAME := ⟨_, cv_CheckedMode_NAME, ⟨_, rfl⟩⟩,
      m0_CheckedMode := ⟨m01_CheckedMode, m02_CheckedMode, m03_CheckedMode⟩,
      kd_FreeMode_CheckedMode := kit_cl kdi_CheckedMode kdt_CheckedMode kds_FreeMode_FreeMode kds_FreeMode_CheckedMode,
      kd_SavingMode_CheckedMode := kit_cl kdi_CheckedMode kdt_CheckedMode kds_SavingMode_SavingMode kds_SavingMode_CheckedMode,
      kd_GuardedMode_CheckedMode := kit_cl kdi_CheckedMode kdt_CheckedMode kds_GuardedMode_GuardedMode kds_GuardedMode_CheckedMode,
      kd_CheckedMode_CheckedMode := kit_cl kdi_CheckedMode kdt_CheckedMode kds_CheckedMode_CheckedMode kds_CheckedMode_CheckedMode,
      cn_CheckedMode_NAME := ⟨_, cnf_CheckedMode_NAME, ⟨_, rfl⟩, cng_CheckedMode_NAME, by decide +kernel⟩,
      F_Links___init__ := ⟨_, mm_Links___init__, Fun.binds (ps := ["self", "size"]) mm_Links___init__ fun _ _ _ _ _ _ us hl => match us, hl with | [_, _], _ => rfl⟩,
      st_Links_built := ⟨_, CSta.mk' st1_Links_built st2_Links_built k_Links_built⟩,
      F_Links_built := ⟨_, mm_Links_built, Fun.binds (ps := ["size", "lefts", "rights", "flags"]) mm_Links_built fun _ _ _ _ _ _ us hl => match us, hl with | [_, _, _, _], _ => rfl⟩,
      st_Links_read := ⟨_, CSta.mk' st1_Links_read st2_Links_read k_Links_read⟩,
      F_Links_read := ⟨_, mm_Links_read, Fun.binds (ps := ["text"]) mm_Links_read fun _ _ _ _ _ _ us hl => match us, hl with | [_], _ => rfl⟩,
      me_Links_left := ⟨me1_Links_left, me2_Links_left, k_Links_left⟩,
      F_Links_left := ⟨_, mm_Links_left, Fun.binds (ps := ["self", "node"]) mm_Links_left fun _ _ _ _ _ _ us hl => match us, hl with | [_, _], _ => rfl⟩,
      me_Links_right := ⟨me1_Links_right, me2_Links_right, k_Links_right⟩,
      F_Links_right := ⟨_, mm_Links_right, Fun.binds (ps := ["self", "node"]) mm_Links_right fun _ _ _ _ _ _ us hl => match us, hl with | [_, _], _ => rfl⟩,
      me_Links_is_out := ⟨me1_Links_is_out, me2_Links_is_out, k_Links_is_out⟩,
      F_Links_is_out := ⟨_, mm_Links_is_out, Fun.binds (ps := ["self", "node"]) mm_Links_is_out fun _ _ _ _ _ _ us hl => match us, hl with | [_, _], _ => rfl⟩,
      me_Links_operation_on := ⟨me1_Links_operation_on, me2_Links_operation_on, k_Links_operation_on⟩,
      F_Links_operation_on := ⟨_, mm_Links_operation_on, Fun.binds (ps := ["self", "node"]) mm_Links_operation_on fun _ _ _ _ _ _ us hl => match us, hl with | [_, _], _ => rfl⟩,
      me_Links_apply := ⟨me1_Links_apply, me2_Links_apply, k_Links_apply⟩,
      F_Links_apply := ⟨_, mm_Links_apply, Fun.binds (ps := ["self", "operation"]) mm_Links_apply fun _ _ _ _ _ _ us hl => match us, hl with | [_, _], _ => rfl⟩,
      me_Links_apply_at := ⟨me1_Links_apply_at, me2_Links_apply_at, k_Links_apply_at⟩,
      F_Links_apply_at := ⟨_, mm_Links_apply_at, Fun.binds (ps := ["self", "operation", "index"]) mm_Links_apply_at fun _ _ _ _ _ _ us hl => match us, hl with | [_, _, _], _ => rfl⟩,
      me_Links_dump := ⟨me1_Links_dump, me2_Links_dump, k_Links_dump⟩,
      F_Links_dump := ⟨_, mm_Links_dump, Fun.binds (ps := ["self"]) mm_Links_dump fun _ _ _ _ _ _ us hl => match us, hl with | [_], _ => rfl⟩,
      me_Links__dump_parts := ⟨me1_Links__dump_parts, me2_Links__dump_parts, k_Links__dump_parts⟩,
      F_Links__dump_parts := ⟨_, mm_Links__dump_parts, Fun.binds (ps := ["self"]) mm_Links__dump_parts fun _ _ _ _ _ _ us hl => match us, hl with | [_], _ => rfl⟩,
      me_FreeMode_refusal := ⟨me1_FreeMode_refusal, me2_FreeMode_refusal, k_FreeMode_refusal⟩,
      F_FreeMode_refusal := ⟨_, mm_FreeMode_refusal, Fun.binds (ps := ["self", "links", "operation"]) mm_FreeMode_refusal fun _ _ _ _ _ _ us hl => match us, hl with | [_, _, _], _ => rfl⟩,
      me_SavingMode_refusal := ⟨me1_SavingMode_refusal, me2_SavingMode_refusal, kk_SavingMode_refusal⟩,
      sf_SavingMode_refusal := sup_mk l_SavingMode_refusal c_SavingMode_refusal l2_SavingMode_refusal l3_SavingMode_refusal ic_SavingMode_refusal gs_SavingMode_refusal op_SavingMode_refusal v2_SavingMode_refusal fl_SavingMode_refusal hd_SavingMode_refusal ha_SavingMode_refusal s0_SavingMode_refusal rfl fun us hl => match us, hl with | [_, _, _], _ => rfl,
      sa_SavingMode_refusal_SavingMode := ⟨sm_SavingMode_refusal_SavingMode, su_SavingMode_refusal_SavingMode, st_SavingMode_refusal, sn_SavingMode_refusal⟩,
      sa_SavingMode_refusal_GuardedMode := ⟨sm_SavingMode_refusal_GuardedMode, su_SavingMode_refusal_GuardedMode, st_SavingMode_refusal, sn_SavingMode_refusal⟩,
      sa_SavingMode_refusal_CheckedMode := ⟨sm_SavingMode_refusal_CheckedMode, su_SavingMode_refusal_CheckedMode, st_SavingMode_refusal, sn_SavingMode_refusal⟩,
      me_GuardedMode_refusal := ⟨me1_GuardedMode_refusal, me2_GuardedMode_refusal, kk_GuardedMode_refusal⟩,
      sf_GuardedMode_refusal := sup_mk l_GuardedMode_refusal c_GuardedMode_refusal l2_GuardedMode_refusal l3_GuardedMode_refusal ic_GuardedMode_refusal gs_GuardedMode_refusal op_GuardedMode_refusal v2_GuardedMode_refusal fl_GuardedMode_refusal hd_GuardedMode_refusal ha_GuardedMode_refusal s0_GuardedMode_refusal rfl fun us hl => match us, hl with | [_, _, _], _ => rfl,
      sa_GuardedMode_refusal_GuardedMode := ⟨sm_GuardedMode_refusal_GuardedMode, su_GuardedMode_refusal_GuardedMode, st_GuardedMode_refusal, sn_GuardedMode_refusal⟩,
      sa_GuardedMode_refusal_CheckedMode := ⟨sm_GuardedMode_refusal_CheckedMode, su_GuardedMode_refusal_CheckedMode, st_GuardedMode_refusal, sn_GuardedMode_refusal⟩,
      me_CheckedMode_refusal := ⟨me1_CheckedMode_refusal, me2_CheckedMode_refusal, kk_CheckedMode_refusal⟩,
      sf_CheckedMode_refusal := sup_mk l_CheckedMode_refusal c_CheckedMode_refusal l2_CheckedMode_refusal l3_CheckedMode_refusal ic_CheckedMode_refusal gs_CheckedMode_refusal op_CheckedMode_refusal v2_CheckedMode_refusal fl_CheckedMode_refusal hd_CheckedMode_refusal ha_CheckedMode_refusal s0_CheckedMode_refusal rfl fun us hl => match us, hl with | [_, _, _], _ => rfl,
      sa_CheckedMode_refusal_CheckedMode := ⟨sm_CheckedMode_refusal_CheckedMode, su_CheckedMode_refusal_CheckedMode, st_CheckedMode_refusal, sn_CheckedMode_refusal⟩,
      c_LinkError := PySem.W.mg_of X G a_LinkError,
      c_LogError := PySem.W.mg_of X G a_LogError,
      c_BadOperation := PySem.W.mg_of X G a_BadOperation,
      x_BadOperation := x_BadOperation,
      e_BadOperation := e_BadOperation,
      c_Illegal := PySem.W.mg_of X G a_Illegal,
      x_Illegal := x_Illegal,
      e_Illegal := e_Illegal,
      c_BadSize := PySem.W.mg_of X G a_BadSize,
      x_BadSize := x_BadSize,
      e_BadSize := e_BadSize,
      c_BadNode := PySem.W.mg_of X G a_BadNode,
      x_BadNode := x_BadNode,
      e_BadNode := e_BadNode,
      c_BadMode := PySem.W.mg_of X G a_BadMode,
      x_BadMode := x_BadMode,
      e_BadMode := e_BadMode,
      c_BadDump := PySem.W.mg_of X G a_BadDump,
      x_BadDump := x_BadDump,
      e_BadDump := e_BadDump,
      t_BadOperation_LinkError := kit_mk d_LinkError s_BadOperation_BadOperation s_BadOperation_LinkError,
      t_BadOperation_LogError := kit_mk d_LogError s_BadOperation_BadOperation s_BadOperation_LogError,
      t_BadOperation_BadOperation := kit_mk d_BadOperation s_BadOperation_BadOperation s_BadOperation_BadOperation,
      t_BadOperation_Illegal := kit_mk d_Illegal s_BadOperation_BadOperation s_BadOperation_Illegal,
      t_BadOperation_BadSize := kit_mk d_BadSize s_BadOperation_BadOperation s_BadOperation_BadSize,
      t_BadOperation_BadNode := kit_mk d_BadNode s_BadOperation_BadOperation s_BadOperation_BadNode,
      t_BadOperation_BadMode := kit_mk d_BadMode s_BadOperation_BadOperation s_BadOperation_BadMode,
      t_BadOperation_BadDump := kit_mk d_BadDump s_BadOperation_BadOperation s_BadOperation_BadDump,
      v_BadOperation := kit_val x_BadOperation.vE,
      t_Illegal_LinkError := kit_mk d_LinkError s_Illegal_Illegal s_Illegal_LinkError,
      t_Illegal_LogError := kit_mk d_LogError s_Illegal_Illegal s_Illegal_LogError,
      t_Illegal_BadOperation := kit_mk d_BadOperation s_Illegal_Illegal s_Illegal_BadOperation,
      t_Illegal_Illegal := kit_mk d_Illegal s_Illegal_Illegal s_Illegal_Illegal,
      t_Illegal_BadSize := kit_mk d_BadSize s_Illegal_Illegal s_Illegal_BadSize,
      t_Illegal_BadNode := kit_mk d_BadNode s_Illegal_Illegal s_Illegal_BadNode,
      t_Illegal_BadMode := kit_mk d_BadMode s_Illegal_Illegal s_Illegal_BadMode,
      t_Illegal_BadDump := kit_mk d_BadDump s_Illegal_Illegal s_Illegal_BadDump,
      v_Illegal := kit_val x_Illegal.vE,
      t_BadSize_LinkError := kit_mk d_LinkError s_BadSize_BadSize s_BadSize_LinkError,
      t_BadSize_LogError := kit_mk d_LogError s_BadSize_BadSize s_BadSize_LogError,
      t_BadSize_BadOperation := kit_mk d_BadOperation s_BadSize_BadSize s_BadSize_BadOperation,
      t_BadSize_Illegal := kit_mk d_Illegal s_BadSize_BadSize s_BadSize_Illegal,
      t_BadSize_BadSize := kit_mk d_BadSize s_BadSize_BadSize s_BadSize_BadSize,
      t_BadSize_BadNode := kit_mk d_BadNode s_BadSize_BadSize s_BadSize_BadNode,
      t_BadSize_BadMode := kit_mk d_BadMode s_BadSize_BadSize s_BadSize_BadMode,
      t_BadSize_BadDump := kit_mk d_BadDump s_BadSize_BadSize s_BadSize_BadDump,
      v_BadSize := kit_val x_BadSize.vE,
      t_BadNode_LinkError := kit_mk d_LinkError s_BadNode_BadNode s_BadNode_LinkError,
      t_BadNode_LogError := kit_mk d_LogError s_BadNode_BadNode s_BadNode_LogError,
      t_BadNode_BadOperation := kit_mk d_BadOperation s_BadNode_BadNode s_BadNode_BadOperation,
      t_BadNode_Illegal := kit_mk d_Illegal s_BadNode_BadNode s_BadNode_Illegal,
      t_BadNode_BadSize := kit_mk d_BadSize s_BadNode_BadNode s_BadNode_BadSize,
      t_BadNode_BadNode := kit_mk d_BadNode s_BadNode_BadNode s_BadNode_BadNode,
      t_BadNode_BadMode := kit_mk d_BadMode s_BadNode_BadNode s_BadNode_BadMode,
      t_BadNode_BadDump := kit_mk d_BadDump s_BadNode_BadNode s_BadNode_BadDump,
      v_BadNode := kit_val x_BadNode.vE,
      t_BadMode_LinkError := kit_mk d_LinkError s_BadMode_BadMode s_BadMode_LinkError,
      t_BadMode_LogError := kit_mk d_LogError s_BadMode_BadMode s_BadMode_LogError,
      t_BadMode_BadOperation := kit_mk d_BadOperation s_BadMode_BadMode s_BadMode_BadOperation,
      t_BadMode_Illegal := kit_mk d_Illegal s_BadMode_BadMode s_BadMode_Illegal,
      t_BadMode_BadSize := kit_mk d_BadSize s_BadMode_BadMode s_BadMode_BadSize,
      t_BadMode_BadNode := kit_mk d_BadNode s_BadMode_BadMode s_BadMode_BadNode,
      t_BadMode_BadMode := kit_mk d_BadMode s_BadMode_BadMode s_BadMode_BadMode,
      t_BadMode_BadDump := kit_mk d_BadDump s_BadMode_BadMode s_BadMode_BadDump,
      v_BadMode := kit_val x_BadMode.vE,
      t_BadDump_LinkError := kit_mk d_LinkError s_BadDump_BadDump s_BadDump_LinkError,
      t_BadDump_LogError := kit_mk d_LogError s_BadDump_BadDump s_BadDump_LogError,
      t_BadDump_BadOperation := kit_mk d_BadOperation s_BadDump_BadDump s_BadDump_BadOperation,
      t_BadDump_Illegal := kit_mk d_Illegal s_BadDump_BadDump s_BadDump_Illegal,
      t_BadDump_BadSize := kit_mk d_BadSize s_BadDump_BadDump s_BadDump_BadSize,
      t_BadDump_BadNode := kit_mk d_BadNode s_BadDump_BadDump s_BadDump_BadNode,
      t_BadDump_BadMode := kit_mk d_BadMode s_BadDump_BadDump s_BadDump_BadMode,
      t_BadDump_BadDump := kit_mk d_BadDump s_BadDump_BadDump s_BadDump_BadDump,
      v_BadDump := kit_val x_BadDump.vE,
      b_ValueError := PySem.W.mg_none_of X G b_ValueError,
      b_abs := PySem.W.mg_none_of X G b_abs,
      b_enumerate := PySem.W.mg_none_of X G b_enumerate,
      b_range := PySem.W.mg_none_of X G b_range,
      b_list := PySem.W.mg_none_of X G b_list,
      b_min := PySem.W.mg_none_of X G b_min,
      b_int := PySem.W.mg_none_of X G b_int,
      b_len := PySem.W.mg_none_of X G b_len,
      b_isinstance := PySem.W.mg_none_of X G b_isinstance,
      b_str := PySem.W.mg_none_of X G b_str,
      b_max := PySem.W.mg_none_of X G b_max,
      b_bool := PySem.W.mg_none_of X G b_bool,
      b_super := PySem.W.mg_none_of X G b_super,
      k_MOST_NODES := ⟨_, PySem.W.mg_of X G k_MOST_NODES⟩,
      k_MOST_DIGITS := ⟨_, PySem.W.mg_of X G k_MOST_DIGITS⟩,
      k_PARTS := ⟨_, PySem.W.mg_of X G k_PARTS⟩,
      k_MODES := ⟨PySem.W.mg_of X G k_MODES, fun _ => .inr ⟨_, _, _, kl_MODES, rfl, rfl, kz_MODES, kv_MODES⟩⟩ }
  refine ⟨PySem.W.fnOf "law" "law" (defArgs s_law) (defBody s_law) (defScope s_law) .none kV_law dc_law pm_law an_law cd_law ct_law, fun s v => .of_eq rfl, fun base _ _ => ?_⟩
  have G__law_purse := ok__law_purse (w := w) (base := base) T
  have G__law_words := ok__law_words (w := w) (base := base) T
  have G__law_take := ok__law_take (w := w) (base := base) T
  have G_check_mode := ok_check_mode (w := w) (base := base) T
  have G_mode_named := ok_mode_named (w := w) (base := base) T G_check_mode
  have G__law_kinds := ok__law_kinds (w := w) (base := base) T G__law_words G__law_take G_mode_named
  have G__law_lost := ok__law_lost (w := w) (base := base) T
  have G__law_moved := ok__law_moved (w := w) (base := base) T
  have G__law_refusing := ok__law_refusing (w := w) (base := base) T G__law_lost G__law_moved
  have G__law_operation := ok__law_operation (w := w) (base := base) T
  have G__law_run := ok__law_run (w := w) (base := base) T G__law_take G__law_refusing G__law_operation G__law_moved
  have G__law_whole := ok__law_whole (w := w) (base := base) T
  have G_check_size := ok_check_size (w := w) (base := base) T
  have G_Links___init__ := ok_Links___init__ (w := w) (base := base) T G_check_size
  have G_check_operation := ok_check_operation (w := w) (base := base) T
  have G_Links_apply_at := ok_Links_apply_at (w := w) (base := base) T G_check_operation
  have G_Links_apply := ok_Links_apply (w := w) (base := base) T G_Links_apply_at
  have G__law_any := ok__law_any (w := w) (base := base) T G__law_whole G__law_take
  have G_is_number := ok_is_number (w := w) (base := base) T
  have G__numbers := ok__numbers (w := w) (base := base) T G_is_number
  have G__read_rights := ok__read_rights (w := w) (base := base) T G__numbers
  have G__read_lefts := ok__read_lefts (w := w) (base := base) T G__numbers
  have G__read_outs := ok__read_outs (w := w) (base := base) T G__numbers
  have G_Links_built := ok_Links_built (w := w) (base := base) T G_Links___init__
  have G_Links_read := ok_Links_read (w := w) (base := base) T G__read_rights G__read_lefts G__read_outs G_Links_built
  have G__law_dump := ok__law_dump (w := w) (base := base) T
  have G_Links_operation_on := ok_Links_operation_on (w := w) (base := base) T
  have G__check_legal := ok__check_legal (w := w) (base := base) T G_check_operation G_Links_operation_on
  have G_FreeMode_refusal := ok_FreeMode_refusal (w := w) (base := base) T G__check_legal
  have G_Links_left := ok_Links_left (w := w) (base := base) T
  have G_Links_right := ok_Links_right (w := w) (base := base) T
  have G_left_holds := ok_left_holds (w := w) (base := base) T G_Links_right
  have G_right_holds := ok_right_holds (w := w) (base := base) T G_Links_left
  have G_foreign_writes := ok_foreign_writes (w := w) (base := base) T G_check_operation G_Links_operation_on G_Links_left G_Links_right G_left_holds G_right_holds
  have G__last_holders := ok__last_holders (w := w) (base := base) T G_Links_left G_foreign_writes G_right_holds G_left_holds
  have G__loses_gap := ok__loses_gap (w := w) (base := base) T G__last_holders
  have G_SavingMode_refusal := ok_SavingMode_refusal (w := w) (base := base) T G_FreeMode_refusal G__loses_gap
  have G_Links_is_out := ok_Links_is_out (w := w) (base := base) T
  have G__leaves_sole_holder := ok__leaves_sole_holder (w := w) (base := base) T G__last_holders G_Links_is_out
  have G_GuardedMode_refusal := ok_GuardedMode_refusal (w := w) (base := base) T G_SavingMode_refusal G__leaves_sole_holder
  have G__is_local := ok__is_local (w := w) (base := base) T G_Links_left G_Links_right G_Links_is_out
  have G_CheckedMode_refusal := ok_CheckedMode_refusal (w := w) (base := base) T G_GuardedMode_refusal G__is_local
  have G__law_truth := ok__law_truth (w := w) (base := base) T
  have G_admits := ok_admits (w := w) (base := base) T G_mode_named G_FreeMode_refusal G_SavingMode_refusal G_GuardedMode_refusal G_CheckedMode_refusal
  have G__law_asked := ok__law_asked (w := w) (base := base) T G__law_words G__law_operation G__law_refusing G_FreeMode_refusal G_SavingMode_refusal G_GuardedMode_refusal G_CheckedMode_refusal G__law_truth G_admits
  have G_admitted := ok_admitted (w := w) (base := base) T G_mode_named G_Links_operation_on G_FreeMode_refusal G_SavingMode_refusal G_GuardedMode_refusal G_CheckedMode_refusal
  have G__law_is := ok__law_is (w := w) (base := base) T
  have G__law_ints := ok__law_ints (w := w) (base := base) T G__law_is
  have G__law_listed := ok__law_listed (w := w) (base := base) T G__law_refusing G__law_operation G_admitted G__law_ints
  have G__law_wrong := ok__law_wrong (w := w) (base := base) T G__law_take G__law_operation
  have H__law_is := hk__law_is (w := w) (base := base) T
  have G__law_refused := ok__law_refused (w := w) (base := base) T G_FreeMode_refusal G_SavingMode_refusal G_GuardedMode_refusal G_CheckedMode_refusal H__law_is
  have G__law_barred := ok__law_barred (w := w) (base := base) T G_admits H__law_is
  have G__law_text := ok__law_text (w := w) (base := base) T G__law_words G__law_take
  have G__law_no_mode := ok__law_no_mode (w := w) (base := base) T G_mode_named G_admits G_admitted
  have G_Links__dump_parts := ok_Links__dump_parts (w := w) (base := base) T
  have G_Links_dump := ok_Links_dump (w := w) (base := base) T G_Links__dump_parts
  have G__law_turn := ok__law_turn (w := w) (base := base) T G__law_words G__law_asked G__law_take G__law_listed G__law_wrong G__law_refused G__law_barred G__law_text G__law_no_mode G__law_operation G_Links_dump G__law_dump
  have G__law_led := ok__law_led (w := w) (base := base) T G__law_take G__law_words G__law_run G__law_whole G_Links___init__ G_Links_apply G__law_any G_Links_read G__law_dump G__law_turn G__law_operation G__law_moved
  exact ok_law T m_law.2 G__law_purse G__law_kinds G__law_led
end Lk
open PySem PySem.W PySem.Calls PyProof.Rows
set_option maxRecDepth 100000 in
set_option maxHeartbeats 0 in
theorem PySem.Challenge.cw_latelink_k11_refusals_of_modes_holds : PySem.Challenge.rw_latelink_k11_refusals_of_modes.Holds := by
  w_on; o_law; k_head; (case hw => w_witness2)
  k_fill
  refine L2.walk_of (l := PySem.Challenge.rw_latelink_k11_refusals_of_modes) (n := 63) (k := 14) (x := "_law_script") (CX := fun w => L2N.CX PySem.Challenge.rw_latelink_k11_refusals_of_modes.prog w) (sp := fun w => Lk.spL _) rfl (by decide) rfl ⟨rfl, by decide, by decide⟩ (fun w h Y => PySem.W.kIn_of Y) ?F (fun w H a ns hl hO hS => Lk.spL_ok hl hS) Lk.noCX
  case F =>
    intro w mg fa h KX G hmg
    refine' Lk.all_mk KX G hmg ?a_Links ?cl_Links ?rd_Links ?mk1_Links ?mk2_Links ?mk3_Links ?mk4_Links ?na_Links_size ?na_Links__lefts ?na_Links__rights ?na_Links__flags ?cv_Links_MOST ?a_FreeMode ?cl_FreeMode ?ia_FreeMode ?ib_FreeMode ?ic_FreeMode ?im_FreeMode ?rd_FreeMode ?cv_FreeMode_NAME ?kdi_FreeMode ?kdt_FreeMode ?kds_FreeMode_FreeMode ?kds_SavingMode_FreeMode ?kds_GuardedMode_FreeMode ?kds_CheckedMode_FreeMode ?cnf_FreeMode_NAME ?cng_FreeMode_NAME ?m01_FreeMode ?m02_FreeMode ?m03_FreeMode ?a_SavingMode ?cl_SavingMode ?ia_SavingMode ?ib_SavingMode ?ic_SavingMode ?im_SavingMode ?rd_SavingMode ?cv_SavingMode_NAME ?kdi_SavingMode ?kdt_SavingMode ?kds_FreeMode_SavingMode ?kds_SavingMode_SavingMode ?kds_GuardedMode_SavingMode ?kds_CheckedMode_SavingMode ?cnf_SavingMode_NAME ?cng_SavingMode_NAME ?m01_SavingMode ?m02_SavingMode ?m03_SavingMode ?a_GuardedMode ?cl_GuardedMode ?ia_GuardedMode ?ib_GuardedMode ?ic_GuardedMode ?im_GuardedMode ?rd_GuardedMode ?cv_GuardedMode_NAME ?kdi_GuardedMode ?kdt_GuardedMode ?kds_FreeMode_GuardedMode ?kds_SavingMode_GuardedMode ?kds_GuardedMode_GuardedMode ?kds_CheckedMode_GuardedMode ?cnf_GuardedMode_NAME ?cng_GuardedMode_NAME ?m01_GuardedMode ?m02_GuardedMode ?m03_GuardedMode ?a_CheckedMode ?cl_CheckedMode ?ia_CheckedMode ?ib_CheckedMode ?ic_CheckedMode ?im_CheckedMode ?rd_CheckedMode ?cv_CheckedMode_NAME ?kdi_CheckedMode ?kdt_CheckedMode ?kds_FreeMode_CheckedMode ?kds_SavingMode_CheckedMode ?kds_GuardedMode_CheckedMode ?kds_CheckedMode_CheckedMode ?cnf_CheckedMode_NAME ?cng_CheckedMode_NAME ?m01_CheckedMode ?m02_CheckedMode ?m03_CheckedMode ?l_Links___init__ ?c_Links___init__ ?k_Links___init__ ?st1_Links_built ?st2_Links_built ?l_Links_built ?c_Links_built ?k_Links_built ?st1_Links_read ?st2_Links_read ?l_Links_read ?c_Links_read ?k_Links_read ?me1_Links_left ?me2_Links_left ?l_Links_left ?c_Links_left ?k_Links_left ?me1_Links_right ?me2_Links_right ?l_Links_right ?c_Links_right ?k_Links_right ?me1_Links_is_out ?me2_Links_is_out ?l_Links_is_out ?c_Links_is_out ?k_Links_is_out ?me1_Links_operation_on ?me2_Links_operation_on ?l_Links_operation_on ?c_Links_operation_on ?k_Links_operation_on ?me1_Links_apply ?me2_Links_apply ?l_Links_apply ?c_Links_apply ?k_Links_apply ?me1_Links_apply_at ?me2_Links_apply_at ?l_Links_apply_at ?c_Links_apply_at ?k_Links_apply_at ?me1_Links_dump ?me2_Links_dump ?l_Links_dump ?c_Links_dump ?k_Links_dump ?me1_Links__dump_parts ?me2_Links__dump_parts ?l_Links__dump_parts ?c_Links__dump_parts ?k_Links__dump_parts ?me1_FreeMode_refusal ?me2_FreeMode_refusal ?l_FreeMode_refusal ?c_FreeMode_refusal ?k_FreeMode_refusal ?kk_SavingMode_refusal ?me1_SavingMode_refusal ?me2_SavingMode_refusal ?l_SavingMode_refusal ?c_SavingMode_refusal ?l2_SavingMode_refusal ?l3_SavingMode_refusal ?ic_SavingMode_refusal ?gs_SavingMode_refusal ?op_SavingMode_refusal ?v2_SavingMode_refusal ?fl_SavingMode_refusal ?hd_SavingMode_refusal ?ha_SavingMode_refusal ?s0_SavingMode_refusal ?sm_SavingMode_refusal_SavingMode ?su_SavingMode_refusal_SavingMode ?sm_SavingMode_refusal_GuardedMode ?su_SavingMode_refusal_GuardedMode ?sm_SavingMode_refusal_CheckedMode ?su_SavingMode_refusal_CheckedMode ?st_SavingMode_refusal ?sn_SavingMode_refusal ?kk_GuardedMode_refusal ?me1_GuardedMode_refusal ?me2_GuardedMode_refusal ?l_GuardedMode_refusal ?c_GuardedMode_refusal ?l2_GuardedMode_refusal ?l3_GuardedMode_refusal ?ic_GuardedMode_refusal ?gs_GuardedMode_refusal ?op_GuardedMode_refusal ?v2_GuardedMode_refusal ?fl_GuardedMode_refusal ?hd_GuardedMode_refusal ?ha_GuardedMode_refusal ?s0_GuardedMode_refusal ?sm_GuardedMode_refusal_GuardedMode ?su_GuardedMode_refusal_GuardedMode ?sm_GuardedMode_refusal_CheckedMode ?su_GuardedMode_refusal_CheckedMode ?st_GuardedMode_refusal ?sn_GuardedMode_refusal ?kk_CheckedMode_refusal ?me1_CheckedMode_refusal ?me2_CheckedMode_refusal ?l_CheckedMode_refusal ?c_CheckedMode_refusal ?l2_CheckedMode_refusal ?l3_CheckedMode_refusal ?ic_CheckedMode_refusal ?gs_CheckedMode_refusal ?op_CheckedMode_refusal ?v2_CheckedMode_refusal ?fl_CheckedMode_refusal ?hd_CheckedMode_refusal ?ha_CheckedMode_refusal ?s0_CheckedMode_refusal ?sm_CheckedMode_refusal_CheckedMode ?su_CheckedMode_refusal_CheckedMode ?st_CheckedMode_refusal ?sn_CheckedMode_refusal ?a_LinkError ?a_LogError ?a_BadOperation ?a_Illegal ?a_BadSize ?a_BadNode ?a_BadMode ?a_BadDump ?d_LinkError ?d_LogError ?d_BadOperation ?d_Illegal ?d_BadSize ?d_BadNode ?d_BadMode ?d_BadDump ?x_BadOperation ?e_BadOperation ?s_BadOperation_LinkError ?s_BadOperation_LogError ?s_BadOperation_BadOperation ?s_BadOperation_Illegal ?s_BadOperation_BadSize ?s_BadOperation_BadNode ?s_BadOperation_BadMode ?s_BadOperation_BadDump ?x_Illegal ?e_Illegal ?s_Illegal_LinkError ?s_Illegal_LogError ?s_Illegal_BadOperation ?s_Illegal_Illegal ?s_Illegal_BadSize ?s_Illegal_BadNode ?s_Illegal_BadMode ?s_Illegal_BadDump ?x_BadSize ?e_BadSize ?s_BadSize_LinkError ?s_BadSize_LogError ?s_BadSize_BadOperation ?s_BadSize_Illegal ?s_BadSize_BadSize ?s_BadSize_BadNode ?s_BadSize_BadMode ?s_BadSize_BadDump ?x_BadNode ?e_BadNode ?s_BadNode_LinkError ?s_BadNode_LogError ?s_BadNode_BadOperation ?s_BadNode_Illegal ?s_BadNode_BadSize ?s_BadNode_BadNode ?s_BadNode_BadMode ?s_BadNode_BadDump ?x_BadMode ?e_BadMode ?s_BadMode_LinkError ?s_BadMode_LogError ?s_BadMode_BadOperation ?s_BadMode_Illegal ?s_BadMode_BadSize ?s_BadMode_BadNode ?s_BadMode_BadMode ?s_BadMode_BadDump ?x_BadDump ?e_BadDump ?s_BadDump_LinkError ?s_BadDump_LogError ?s_BadDump_BadOperation ?s_BadDump_Illegal ?s_BadDump_BadSize ?s_BadDump_BadNode ?s_BadDump_BadMode ?s_BadDump_BadDump ?a_check_size ?l_check_size ?c_check_size ?k_check_size ?a_check_operation ?l_check_operation ?c_check_operation ?k_check_operation ?a_is_number ?l_is_number ?c_is_number ?k_is_number ?a_left_holds ?l_left_holds ?c_left_holds ?k_left_holds ?a_right_holds ?l_right_holds ?c_right_holds ?k_right_holds ?a_foreign_writes ?l_foreign_writes ?c_foreign_writes ?k_foreign_writes ?a__numbers ?l__numbers ?c__numbers ?k__numbers ?a__read_rights ?l__read_rights ?c__read_rights ?k__read_rights ?a__read_lefts ?l__read_lefts ?c__read_lefts ?k__read_lefts ?a__read_outs ?l__read_outs ?c__read_outs ?k__read_outs ?a_check_mode ?l_check_mode ?c_check_mode ?k_check_mode ?a__check_legal ?l__check_legal ?c__check_legal ?k__check_legal ?a__last_holders ?l__last_holders ?c__last_holders ?k__last_holders ?a__loses_gap ?l__loses_gap ?c__loses_gap ?k__loses_gap ?a__leaves_sole_holder ?l__leaves_sole_holder ?c__leaves_sole_holder ?k__leaves_sole_holder ?a__is_local ?l__is_local ?c__is_local ?k__is_local ?a_mode_named ?l_mode_named ?c_mode_named ?k_mode_named ?a_admits ?l_admits ?c_admits ?k_admits ?kd_admits_mode ?a_admitted ?l_admitted ?c_admitted ?k_admitted ?kd_admitted_mode ?a__law_purse ?l__law_purse ?c__law_purse ?k__law_purse ?a__law_take ?l__law_take ?c__law_take ?k__law_take ?a__law_words ?l__law_words ?c__law_words ?k__law_words ?a__law_is ?l__law_is ?c__law_is ?k__law_is ?a__law_ints ?l__law_ints ?c__law_ints ?k__law_ints ?a__law_truth ?l__law_truth ?c__law_truth ?k__law_truth ?a__law_whole ?l__law_whole ?c__law_whole ?k__law_whole ?a__law_operation ?l__law_operation ?c__law_operation ?k__law_operation ?a__law_moved ?l__law_moved ?c__law_moved ?k__law_moved ?a__law_dump ?l__law_dump ?c__law_dump ?k__law_dump ?a__law_lost ?l__law_lost ?c__law_lost ?k__law_lost ?a__law_refusing ?l__law_refusing ?c__law_refusing ?k__law_refusing ?a__law_any ?l__law_any ?c__law_any ?k__law_any ?a__law_run ?l__law_run ?c__law_run ?k__law_run ?a__law_kinds ?l__law_kinds ?c__law_kinds ?k__law_kinds ?a__law_asked ?l__law_asked ?c__law_asked ?k__law_asked ?a__law_listed ?l__law_listed ?c__law_listed ?k__law_listed ?a__law_wrong ?l__law_wrong ?c__law_wrong ?k__law_wrong ?a__law_refused ?l__law_refused ?c__law_refused ?k__law_refused ?a__law_barred ?l__law_barred ?c__law_barred ?k__law_barred ?a__law_no_mode ?l__law_no_mode ?c__law_no_mode ?k__law_no_mode ?a__law_text ?l__law_text ?c__law_text ?k__law_text ?a__law_turn ?l__law_turn ?c__law_turn ?k__law_turn ?a__law_led ?l__law_led ?c__law_led ?k__law_led ?a_law ?l_law ?c_law ?k_law ?b_ValueError ?b_abs ?b_enumerate ?b_range ?b_list ?b_min ?b_int ?b_len ?b_isinstance ?b_str ?b_max ?b_bool ?b_super ?k_MOST_NODES ?k_MOST_DIGITS ?k_PARTS ?k_MODES ?kl_MODES ?kz_MODES ?kv_MODES
    (case a_Links => k_is)
    (case cl_Links => refine ⟨?_, ?_, ?_, ?_⟩ <;> k_is)
    (case rd_Links => refine ⟨?_, ?_⟩ <;> k_is)
    (case mk1_Links => k_is)
    (case mk2_Links => k_is)
    (case mk3_Links => k_is)
    (case mk4_Links => k_is)
    (case na_Links_size => show PySem.W.findIn _ (.ref _) "size" = some none; k_is)
    (case na_Links__lefts => show PySem.W.findIn _ (.ref _) "_lefts" = some none; k_is)
    (case na_Links__rights => show PySem.W.findIn _ (.ref _) "_rights" = some none; k_is)
    (case na_Links__flags => show PySem.W.findIn _ (.ref _) "_flags" = some none; k_is)
    (case cv_Links_MOST => k_is)
    (case a_FreeMode => k_is)
    (case cl_FreeMode => refine ⟨?_, ?_, ?_, ?_⟩ <;> k_is)
    (case ia_FreeMode => k_is)
    (case ib_FreeMode => k_is)
    (case ic_FreeMode => k_is)
    (case im_FreeMode => k_is)
    (case rd_FreeMode => refine ⟨?_, ?_⟩ <;> k_is)
    (case cv_FreeMode_NAME => k_is)
    (case kdi_FreeMode => k_is)
    (case kdt_FreeMode => k_is)
    (case cnf_FreeMode_NAME => k_is)
    (case cng_FreeMode_NAME => k_is)
    (case m01_FreeMode => k_is)
    (case m02_FreeMode => k_is)
    (case m03_FreeMode => k_is)
    (case a_SavingMode => k_is)
    (case cl_SavingMode => refine ⟨?_, ?_, ?_, ?_⟩ <;> k_is)
    (case ia_SavingMode => k_is)
    (case ib_SavingMode => k_is)
    (case ic_SavingMode => k_is)
    (case im_SavingMode => k_is)
    (case rd_SavingMode => refine ⟨?_, ?_⟩ <;> k_is)
    (case cv_SavingMode_NAME => k_is)
    (case kdi_SavingMode => k_is)
    (case kdt_SavingMode => k_is)
    (case cnf_SavingMode_NAME => k_is)
    (case cng_SavingMode_NAME => k_is)
    (case m01_SavingMode => k_is)
    (case m02_SavingMode => k_is)
    (case m03_SavingMode => k_is)
    (case a_GuardedMode => k_is)
    (case cl_GuardedMode => refine ⟨?_, ?_, ?_, ?_⟩ <;> k_is)
    (case ia_GuardedMode => k_is)
    (case ib_GuardedMode => k_is)
    (case ic_GuardedMode => k_is)
    (case im_GuardedMode => k_is)
    (case rd_GuardedMode => refine ⟨?_, ?_⟩ <;> k_is)
    (case cv_GuardedMode_NAME => k_is)
    (case kdi_GuardedMode => k_is)
    (case kdt_GuardedMode => k_is)
    (case cnf_GuardedMode_NAME => k_is)
    (case cng_GuardedMode_NAME => k_is)
    (case m01_GuardedMode => k_is)
    (case m02_GuardedMode => k_is)
    (case m03_GuardedMode => k_is)
    (case a_CheckedMode => k_is)
    (case cl_CheckedMode => refine ⟨?_, ?_, ?_, ?_⟩ <;> k_is)
    (case ia_CheckedMode => k_is)
    (case ib_CheckedMode => k_is)
    (case ic_CheckedMode => k_is)
    (case im_CheckedMode => k_is)
    (case rd_CheckedMode => refine ⟨?_, ?_⟩ <;> k_is)
    (case cv_CheckedMode_NAME => k_is)
    (case kdi_CheckedMode => k_is)
    (case kdt_CheckedMode => k_is)
    (case cnf_CheckedMode_NAME => k_is)
    (case cng_CheckedMode_NAME => k_is)
    (case m01_CheckedMode => k_is)
    (case m02_CheckedMode => k_is)
    (case m03_CheckedMode => k_is)
    (case l_Links___init__ => k_is)
    (case c_Links___init__ => k_is)
    (case k_Links___init__ => k_is)
    (case st1_Links_built => k_is)
    (case st2_Links_built => k_is)
    (case l_Links_built => k_is)
    (case c_Links_built => k_is)
    (case k_Links_built => k_is)
    (case st1_Links_read => k_is)
    (case st2_Links_read => k_is)
    (case l_Links_read => k_is)
    (case c_Links_read => k_is)
    (case k_Links_read => k_is)
    (case me1_Links_left => k_is)
    (case me2_Links_left => k_is)
    (case l_Links_left => k_is)
    (case c_Links_left => k_is)
    (case k_Links_left => k_is)
    (case me1_Links_right => k_is)
    (case me2_Links_right => k_is)
    (case l_Links_right => k_is)
    (case c_Links_right => k_is)
    (case k_Links_right => k_is)
    (case me1_Links_is_out => k_is)
    (case me2_Links_is_out => k_is)
    (case l_Links_is_out => k_is)
    (case c_Links_is_out => k_is)
    (case k_Links_is_out => k_is)
    (case me1_Links_operation_on => k_is)
    (case me2_Links_operation_on => k_is)
    (case l_Links_operation_on => k_is)
    (case c_Links_operation_on => k_is)
    (case k_Links_operation_on => k_is)
    (case me1_Links_apply => k_is)
    (case me2_Links_apply => k_is)
    (case l_Links_apply => k_is)
    (case c_Links_apply => k_is)
    (case k_Links_apply => k_is)
    (case me1_Links_apply_at => k_is)
    (case me2_Links_apply_at => k_is)
    (case l_Links_apply_at => k_is)
    (case c_Links_apply_at => k_is)
    (case k_Links_apply_at => k_is)
    (case me1_Links_dump => k_is)
    (case me2_Links_dump => k_is)
    (case l_Links_dump => k_is)
    (case c_Links_dump => k_is)
    (case k_Links_dump => k_is)
    (case me1_Links__dump_parts => k_is)
    (case me2_Links__dump_parts => k_is)
    (case l_Links__dump_parts => k_is)
    (case c_Links__dump_parts => k_is)
    (case k_Links__dump_parts => k_is)
    (case me1_FreeMode_refusal => k_is)
    (case me2_FreeMode_refusal => k_is)
    (case l_FreeMode_refusal => k_is)
    (case c_FreeMode_refusal => k_is)
    (case k_FreeMode_refusal => k_is)
    (case me1_SavingMode_refusal => k_is)
    (case kk_SavingMode_refusal => k_is)
    (case me2_SavingMode_refusal => k_is)
    (case l_SavingMode_refusal => k_is)
    (case c_SavingMode_refusal => k_is)
    (case l2_SavingMode_refusal => k_is)
    (case l3_SavingMode_refusal => k_is)
    (case ic_SavingMode_refusal => k_is)
    (case gs_SavingMode_refusal => k_is)
    (case op_SavingMode_refusal => k_is)
    (case v2_SavingMode_refusal => rfl)
    (case fl_SavingMode_refusal => first | rfl | decide +kernel)
    (case hd_SavingMode_refusal => rfl)
    (case ha_SavingMode_refusal => rfl)
    (case s0_SavingMode_refusal => kernel_rfl)
    (case sm_SavingMode_refusal_SavingMode => k_is)
    (case su_SavingMode_refusal_SavingMode => ks_is)
    (case sm_SavingMode_refusal_GuardedMode => k_is)
    (case su_SavingMode_refusal_GuardedMode => ks_is)
    (case sm_SavingMode_refusal_CheckedMode => k_is)
    (case su_SavingMode_refusal_CheckedMode => ks_is)
    (case st_SavingMode_refusal => k_is)
    (case sn_SavingMode_refusal => k_is)
    (case me1_GuardedMode_refusal => k_is)
    (case kk_GuardedMode_refusal => k_is)
    (case me2_GuardedMode_refusal => k_is)
    (case l_GuardedMode_refusal => k_is)
    (case c_GuardedMode_refusal => k_is)
    (case l2_GuardedMode_refusal => k_is)
    (case l3_GuardedMode_refusal => k_is)
    (case ic_GuardedMode_refusal => k_is)
    (case gs_GuardedMode_refusal => k_is)
    (case op_GuardedMode_refusal => k_is)
    (case v2_GuardedMode_refusal => rfl)
    (case fl_GuardedMode_refusal => first | rfl | decide +kernel)
    (case hd_GuardedMode_refusal => rfl)
    (case ha_GuardedMode_refusal => rfl)
    (case s0_GuardedMode_refusal => kernel_rfl)
    (case sm_GuardedMode_refusal_GuardedMode => k_is)
    (case su_GuardedMode_refusal_GuardedMode => ks_is)
    (case sm_GuardedMode_refusal_CheckedMode => k_is)
    (case su_GuardedMode_refusal_CheckedMode => ks_is)
    (case st_GuardedMode_refusal => k_is)
    (case sn_GuardedMode_refusal => k_is)
    (case me1_CheckedMode_refusal => k_is)
    (case kk_CheckedMode_refusal => k_is)
    (case me2_CheckedMode_refusal => k_is)
    (case l_CheckedMode_refusal => k_is)
    (case c_CheckedMode_refusal => k_is)
    (case l2_CheckedMode_refusal => k_is)
    (case l3_CheckedMode_refusal => k_is)
    (case ic_CheckedMode_refusal => k_is)
    (case gs_CheckedMode_refusal => k_is)
    (case op_CheckedMode_refusal => k_is)
    (case v2_CheckedMode_refusal => rfl)
    (case fl_CheckedMode_refusal => first | rfl | decide +kernel)
    (case hd_CheckedMode_refusal => rfl)
    (case ha_CheckedMode_refusal => rfl)
    (case s0_CheckedMode_refusal => kernel_rfl)
    (case sm_CheckedMode_refusal_CheckedMode => k_is)
    (case su_CheckedMode_refusal_CheckedMode => ks_is)
    (case st_CheckedMode_refusal => k_is)
    (case sn_CheckedMode_refusal => k_is)
    (case a_LinkError => k_is)
    (case a_LogError => k_is)
    (case a_BadOperation => k_is)
    (case a_Illegal => k_is)
    (case a_BadSize => k_is)
    (case a_BadNode => k_is)
    (case a_BadMode => k_is)
    (case a_BadDump => k_is)
    (case d_LinkError => refine ⟨?_, ?_, ?_⟩ <;> k_is)
    (case d_LogError => refine ⟨?_, ?_, ?_⟩ <;> k_is)
    (case d_BadOperation => refine ⟨?_, ?_, ?_⟩ <;> k_is)
    (case d_Illegal => refine ⟨?_, ?_, ?_⟩ <;> k_is)
    (case d_BadSize => refine ⟨?_, ?_, ?_⟩ <;> k_is)
    (case d_BadNode => refine ⟨?_, ?_, ?_⟩ <;> k_is)
    (case d_BadMode => refine ⟨?_, ?_, ?_⟩ <;> k_is)
    (case d_BadDump => refine ⟨?_, ?_, ?_⟩ <;> k_is)
    case x_BadOperation =>
      refine' LkX.exc_mk (st := Lk.s_BadOperation___init__) (qual := "BadOperation.__init__") ?p1 ?p2 ?p3 ?p4 ?p5 ?p6 ?p7 ?p8 ?p9 ?q1 ?q2 ?q3 ?q4 ?q5 ?q6 ?q7 ?q8 ?r1 ?r2 ⟨_, _, _, _, _, _, _, _, _, rfl, rfl, (.cons (.cons .nil))⟩ rfl rfl rfl rfl rfl (by decide +kernel) (by decide +kernel) rfl rfl rfl (fun us hl => match us, hl with | [_, _, _], _ => rfl) (by decide +kernel) (by decide +kernel) (by decide)
      (case p1 => k_is)
      (case p2 => k_is)
      (case p3 => k_is)
      (case p4 => k_is)
      (case p5 => k_is)
      (case p6 => k_is)
      (case p7 => k_is)
      (case p8 => k_is)
      (case p9 => k_is)
      (case q1 => k_is)
      (case q2 => k_is)
      (case q3 => k_is)
      (case q4 => k_is)
      (case q5 => k_is)
      (case q6 => kernel_rfl)
      (case q7 => decide +kernel)
      (case q8 => refine Lk.all_in ?_; refine ⟨?_, ?_⟩; (· k_is); refine ⟨?_, ?_⟩; (· k_is); exact trivial)
      (case r1 => rfl)
      (case r2 => kernel_rfl)
    (case e_BadOperation => refine Lk.exc_ef ?_ ?_ ?_ ?_ ?_ ?_ ?_ ?_ <;> k_is)
    (case s_BadOperation_LinkError => k_is)
    (case s_BadOperation_LogError => k_is)
    (case s_BadOperation_BadOperation => k_is)
    (case s_BadOperation_Illegal => k_is)
    (case s_BadOperation_BadSize => k_is)
    (case s_BadOperation_BadNode => k_is)
    (case s_BadOperation_BadMode => k_is)
    (case s_BadOperation_BadDump => k_is)
    case x_Illegal =>
      refine' LkX.exc_mk (st := Lk.s_Illegal___init__) (qual := "Illegal.__init__") ?p1 ?p2 ?p3 ?p4 ?p5 ?p6 ?p7 ?p8 ?p9 ?q1 ?q2 ?q3 ?q4 ?q5 ?q6 ?q7 ?q8 ?r1 ?r2 ⟨_, _, _, _, _, _, _, _, _, rfl, rfl, (.cons (.cons .nil))⟩ rfl rfl rfl rfl rfl (by decide +kernel) (by decide +kernel) rfl rfl rfl (fun us hl => match us, hl with | [_, _, _], _ => rfl) (by decide +kernel) (by decide +kernel) (by decide)
      (case p1 => k_is)
      (case p2 => k_is)
      (case p3 => k_is)
      (case p4 => k_is)
      (case p5 => k_is)
      (case p6 => k_is)
      (case p7 => k_is)
      (case p8 => k_is)
      (case p9 => k_is)
      (case q1 => k_is)
      (case q2 => k_is)
      (case q3 => k_is)
      (case q4 => k_is)
      (case q5 => k_is)
      (case q6 => kernel_rfl)
      (case q7 => decide +kernel)
      (case q8 => refine Lk.all_in ?_; refine ⟨?_, ?_⟩; (· k_is); refine ⟨?_, ?_⟩; (· k_is); exact trivial)
      (case r1 => rfl)
      (case r2 => kernel_rfl)
    (case e_Illegal => refine Lk.exc_ef ?_ ?_ ?_ ?_ ?_ ?_ ?_ ?_ <;> k_is)
    (case s_Illegal_LinkError => k_is)
    (case s_Illegal_LogError => k_is)
    (case s_Illegal_BadOperation => k_is)
    (case s_Illegal_Illegal => k_is)
    (case s_Illegal_BadSize => k_is)
    (case s_Illegal_BadNode => k_is)
    (case s_Illegal_BadMode => k_is)
    (case s_Illegal_BadDump => k_is)
    case x_BadSize =>
      refine' LkX.exc_mk (st := Lk.s_BadSize___init__) (qual := "BadSize.__init__") ?p1 ?p2 ?p3 ?p4 ?p5 ?p6 ?p7 ?p8 ?p9 ?q1 ?q2 ?q3 ?q4 ?q5 ?q6 ?q7 ?q8 ?r1 ?r2 ⟨_, _, _, _, _, _, _, _, _, rfl, rfl, (.cons .nil)⟩ rfl rfl rfl rfl rfl (by decide +kernel) (by decide +kernel) rfl rfl rfl (fun us hl => match us, hl with | [_, _], _ => rfl) (by decide +kernel) (by decide +kernel) (by decide)
      (case p1 => k_is)
      (case p2 => k_is)
      (case p3 => k_is)
      (case p4 => k_is)
      (case p5 => k_is)
      (case p6 => k_is)
      (case p7 => k_is)
      (case p8 => k_is)
      (case p9 => k_is)
      (case q1 => k_is)
      (case q2 => k_is)
      (case q3 => k_is)
      (case q4 => k_is)
      (case q5 => k_is)
      (case q6 => kernel_rfl)
      (case q7 => decide +kernel)
      (case q8 => refine Lk.all_in ?_; refine ⟨?_, ?_⟩; (· k_is); exact trivial)
      (case r1 => rfl)
      (case r2 => kernel_rfl)
    (case e_BadSize => refine Lk.exc_ef ?_ ?_ ?_ ?_ ?_ ?_ ?_ ?_ <;> k_is)
    (case s_BadSize_LinkError => k_is)
    (case s_BadSize_LogError => k_is)
    (case s_BadSize_BadOperation => k_is)
    (case s_BadSize_Illegal => k_is)
    (case s_BadSize_BadSize => k_is)
    (case s_BadSize_BadNode => k_is)
    (case s_BadSize_BadMode => k_is)
    (case s_BadSize_BadDump => k_is)
    case x_BadNode =>
      refine' LkX.exc_mk (st := Lk.s_BadNode___init__) (qual := "BadNode.__init__") ?p1 ?p2 ?p3 ?p4 ?p5 ?p6 ?p7 ?p8 ?p9 ?q1 ?q2 ?q3 ?q4 ?q5 ?q6 ?q7 ?q8 ?r1 ?r2 ⟨_, _, _, _, _, _, _, _, _, rfl, rfl, (.cons .nil)⟩ rfl rfl rfl rfl rfl (by decide +kernel) (by decide +kernel) rfl rfl rfl (fun us hl => match us, hl with | [_, _], _ => rfl) (by decide +kernel) (by decide +kernel) (by decide)
      (case p1 => k_is)
      (case p2 => k_is)
      (case p3 => k_is)
      (case p4 => k_is)
      (case p5 => k_is)
      (case p6 => k_is)
      (case p7 => k_is)
      (case p8 => k_is)
      (case p9 => k_is)
      (case q1 => k_is)
      (case q2 => k_is)
      (case q3 => k_is)
      (case q4 => k_is)
      (case q5 => k_is)
      (case q6 => kernel_rfl)
      (case q7 => decide +kernel)
      (case q8 => refine Lk.all_in ?_; refine ⟨?_, ?_⟩; (· k_is); exact trivial)
      (case r1 => rfl)
      (case r2 => kernel_rfl)
    (case e_BadNode => refine Lk.exc_ef ?_ ?_ ?_ ?_ ?_ ?_ ?_ ?_ <;> k_is)
    (case s_BadNode_LinkError => k_is)
    (case s_BadNode_LogError => k_is)
    (case s_BadNode_BadOperation => k_is)
    (case s_BadNode_Illegal => k_is)
    (case s_BadNode_BadSize => k_is)
    (case s_BadNode_BadNode => k_is)
    (case s_BadNode_BadMode => k_is)
    (case s_BadNode_BadDump => k_is)
    case x_BadMode =>
      refine' LkX.exc_mk (st := Lk.s_BadMode___init__) (qual := "BadMode.__init__") ?p1 ?p2 ?p3 ?p4 ?p5 ?p6 ?p7 ?p8 ?p9 ?q1 ?q2 ?q3 ?q4 ?q5 ?q6 ?q7 ?q8 ?r1 ?r2 ⟨_, _, _, _, _, _, _, _, _, rfl, rfl, (.cons .nil)⟩ rfl rfl rfl rfl rfl (by decide +kernel) (by decide +kernel) rfl rfl rfl (fun us hl => match us, hl with | [_, _], _ => rfl) (by decide +kernel) (by decide +kernel) (by decide)
      (case p1 => k_is)
      (case p2 => k_is)
      (case p3 => k_is)
      (case p4 => k_is)
      (case p5 => k_is)
      (case p6 => k_is)
      (case p7 => k_is)
      (case p8 => k_is)
      (case p9 => k_is)
      (case q1 => k_is)
      (case q2 => k_is)
      (case q3 => k_is)
      (case q4 => k_is)
      (case q5 => k_is)
      (case q6 => kernel_rfl)
      (case q7 => decide +kernel)
      (case q8 => refine Lk.all_in ?_; refine ⟨?_, ?_⟩; (· k_is); exact trivial)
      (case r1 => rfl)
      (case r2 => kernel_rfl)
    (case e_BadMode => refine Lk.exc_ef ?_ ?_ ?_ ?_ ?_ ?_ ?_ ?_ <;> k_is)
    (case s_BadMode_LinkError => k_is)
    (case s_BadMode_LogError => k_is)
    (case s_BadMode_BadOperation => k_is)
    (case s_BadMode_Illegal => k_is)
    (case s_BadMode_BadSize => k_is)
    (case s_BadMode_BadNode => k_is)
    (case s_BadMode_BadMode => k_is)
    (case s_BadMode_BadDump => k_is)
    case x_BadDump =>
      refine' LkX.exc_mk (st := Lk.s_BadDump___init__) (qual := "BadDump.__init__") ?p1 ?p2 ?p3 ?p4 ?p5 ?p6 ?p7 ?p8 ?p9 ?q1 ?q2 ?q3 ?q4 ?q5 ?q6 ?q7 ?q8 ?r1 ?r2 ⟨_, _, _, _, _, _, _, _, _, rfl, rfl, (.cons .nil)⟩ rfl rfl rfl rfl rfl (by decide +kernel) (by decide +kernel) rfl rfl rfl (fun us hl => match us, hl with | [_, _], _ => rfl) (by decide +kernel) (by decide +kernel) (by decide)
      (case p1 => k_is)
      (case p2 => k_is)
      (case p3 => k_is)
      (case p4 => k_is)
      (case p5 => k_is)
      (case p6 => k_is)
      (case p7 => k_is)
      (case p8 => k_is)
      (case p9 => k_is)
      (case q1 => k_is)
      (case q2 => k_is)
      (case q3 => k_is)
      (case q4 => k_is)
      (case q5 => k_is)
      (case q6 => kernel_rfl)
      (case q7 => decide +kernel)
      (case q8 => refine Lk.all_in ?_; refine ⟨?_, ?_⟩; (· k_is); exact trivial)
      (case r1 => rfl)
      (case r2 => kernel_rfl)
    (case e_BadDump => refine Lk.exc_ef ?_ ?_ ?_ ?_ ?_ ?_ ?_ ?_ <;> k_is)
    (case s_BadDump_LinkError => k_is)
    (case s_BadDump_LogError => k_is)
    (case s_BadDump_BadOperation => k_is)
    (case s_BadDump_Illegal => k_is)
    (case s_BadDump_BadSize => k_is)
    (case s_BadDump_BadNode => k_is)
    (case s_BadDump_BadMode => k_is)
    (case s_BadDump_BadDump => k_is)
    (case a_check_size => k_is)
    (case l_check_size => k_is)
    (case c_check_size => k_is)
    (case k_check_size => k_is)
    (case a_check_operation => k_is)
    (case l_check_operation => k_is)
    (case c_check_operation => k_is)
    (case k_check_operation => k_is)
    (case a_is_number => k_is)
    (case l_is_number => k_is)
    (case c_is_number => k_is)
    (case k_is_number => k_is)
    (case a_left_holds => k_is)
    (case l_left_holds => k_is)
    (case c_left_holds => k_is)
    (case k_left_holds => k_is)
    (case a_right_holds => k_is)
    (case l_right_holds => k_is)
    (case c_right_holds => k_is)
    (case k_right_holds => k_is)
    (case a_foreign_writes => k_is)
    (case l_foreign_writes => k_is)
    (case c_foreign_writes => k_is)
    (case k_foreign_writes => k_is)
    (case a__numbers => k_is)
    (case l__numbers => k_is)
    (case c__numbers => k_is)
    (case k__numbers => k_is)
    (case a__read_rights => k_is)
    (case l__read_rights => k_is)
    (case c__read_rights => k_is)
    (case k__read_rights => k_is)
    (case a__read_lefts => k_is)
    (case l__read_lefts => k_is)
    (case c__read_lefts => k_is)
    (case k__read_lefts => k_is)
    (case a__read_outs => k_is)
    (case l__read_outs => k_is)
    (case c__read_outs => k_is)
    (case k__read_outs => k_is)
    (case a_check_mode => k_is)
    (case l_check_mode => k_is)
    (case c_check_mode => k_is)
    (case k_check_mode => k_is)
    (case a__check_legal => k_is)
    (case l__check_legal => k_is)
    (case c__check_legal => k_is)
    (case k__check_legal => k_is)
    (case a__last_holders => k_is)
    (case l__last_holders => k_is)
    (case c__last_holders => k_is)
    (case k__last_holders => k_is)
    (case a__loses_gap => k_is)
    (case l__loses_gap => k_is)
    (case c__loses_gap => k_is)
    (case k__loses_gap => k_is)
    (case a__leaves_sole_holder => k_is)
    (case l__leaves_sole_holder => k_is)
    (case c__leaves_sole_holder => k_is)
    (case k__leaves_sole_holder => k_is)
    (case a__is_local => k_is)
    (case l__is_local => k_is)
    (case c__is_local => k_is)
    (case k__is_local => k_is)
    (case a_mode_named => k_is)
    (case l_mode_named => k_is)
    (case c_mode_named => k_is)
    (case k_mode_named => k_is)
    (case a_admits => k_is)
    (case l_admits => k_is)
    (case c_admits => k_is)
    (case k_admits => k_is)
    (case kd_admits_mode => k_is)
    (case a_admitted => k_is)
    (case l_admitted => k_is)
    (case c_admitted => k_is)
    (case k_admitted => k_is)
    (case kd_admitted_mode => k_is)
    (case a__law_purse => k_is)
    (case l__law_purse => k_is)
    (case c__law_purse => k_is)
    (case k__law_purse => k_is)
    (case a__law_take => k_is)
    (case l__law_take => k_is)
    (case c__law_take => k_is)
    (case k__law_take => k_is)
    (case a__law_words => k_is)
    (case l__law_words => k_is)
    (case c__law_words => k_is)
    (case k__law_words => k_is)
    (case a__law_is => k_is)
    (case l__law_is => k_is)
    (case c__law_is => k_is)
    (case k__law_is => k_is)
    (case a__law_ints => k_is)
    (case l__law_ints => k_is)
    (case c__law_ints => k_is)
    (case k__law_ints => k_is)
    (case a__law_truth => k_is)
    (case l__law_truth => k_is)
    (case c__law_truth => k_is)
    (case k__law_truth => k_is)
    (case a__law_whole => k_is)
    (case l__law_whole => k_is)
    (case c__law_whole => k_is)
    (case k__law_whole => k_is)
    (case a__law_operation => k_is)
    (case l__law_operation => k_is)
    (case c__law_operation => k_is)
    (case k__law_operation => k_is)
    (case a__law_moved => k_is)
    (case l__law_moved => k_is)
    (case c__law_moved => k_is)
    (case k__law_moved => k_is)
    (case a__law_dump => k_is)
    (case l__law_dump => k_is)
    (case c__law_dump => k_is)
    (case k__law_dump => k_is)
    (case a__law_lost => k_is)
    (case l__law_lost => k_is)
    (case c__law_lost => k_is)
    (case k__law_lost => k_is)
    (case a__law_refusing => k_is)
    (case l__law_refusing => k_is)
    (case c__law_refusing => k_is)
    (case k__law_refusing => k_is)
    (case a__law_any => k_is)
    (case l__law_any => k_is)
    (case c__law_any => k_is)
    (case k__law_any => k_is)
    (case a__law_run => k_is)
    (case l__law_run => k_is)
    (case c__law_run => k_is)
    (case k__law_run => k_is)
    (case a__law_kinds => k_is)
    (case l__law_kinds => k_is)
    (case c__law_kinds => k_is)
    (case k__law_kinds => k_is)
    (case a__law_asked => k_is)
    (case l__law_asked => k_is)
    (case c__law_asked => k_is)
    (case k__law_asked => k_is)
    (case a__law_listed => k_is)
    (case l__law_listed => k_is)
    (case c__law_listed => k_is)
    (case k__law_listed => k_is)
    (case a__law_wrong => k_is)
    (case l__law_wrong => k_is)
    (case c__law_wrong => k_is)
    (case k__law_wrong => k_is)
    (case a__law_refused => k_is)
    (case l__law_refused => k_is)
    (case c__law_refused => k_is)
    (case k__law_refused => k_is)
    (case a__law_barred => k_is)
    (case l__law_barred => k_is)
    (case c__law_barred => k_is)
    (case k__law_barred => k_is)
    (case a__law_no_mode => k_is)
    (case l__law_no_mode => k_is)
    (case c__law_no_mode => k_is)
    (case k__law_no_mode => k_is)
    (case a__law_text => k_is)
    (case l__law_text => k_is)
    (case c__law_text => k_is)
    (case k__law_text => k_is)
    (case a__law_turn => k_is)
    (case l__law_turn => k_is)
    (case c__law_turn => k_is)
    (case k__law_turn => k_is)
    (case a__law_led => k_is)
    (case l__law_led => k_is)
    (case c__law_led => k_is)
    (case k__law_led => k_is)
    (case a_law => k_is)
    (case l_law => k_is)
    (case c_law => k_is)
    (case k_law => k_is)
    (case b_ValueError => k_is)
    (case b_abs => k_is)
    (case b_enumerate => k_is)
    (case b_range => k_is)
    (case b_list => k_is)
    (case b_min => k_is)
    (case b_int => k_is)
    (case b_len => k_is)
    (case b_isinstance => k_is)
    (case b_str => k_is)
    (case b_max => k_is)
    (case b_bool => k_is)
    (case b_super => k_is)
    (case k_MOST_NODES => k_is)
    (case k_MOST_DIGITS => k_is)
    (case k_PARTS => k_is)
    (case k_MODES => k_is)
    (case kl_MODES => k_is)
    (case kz_MODES => decide +kernel)
    (case kv_MODES => exact (.cons ⟨_, rfl⟩ (.cons ⟨_, rfl⟩ (.cons ⟨_, rfl⟩ (.cons ⟨_, rfl⟩ .nil)))))
    (case kds_FreeMode_FreeMode => k_is)
    (case kds_SavingMode_FreeMode => k_is)
    (case kds_GuardedMode_FreeMode => k_is)
    (case kds_CheckedMode_FreeMode => k_is)
    (case kds_FreeMode_SavingMode => k_is)
    (case kds_SavingMode_SavingMode => k_is)
    (case kds_GuardedMode_SavingMode => k_is)
    (case kds_CheckedMode_SavingMode => k_is)
    (case kds_FreeMode_GuardedMode => k_is)
    (case kds_SavingMode_GuardedMode => k_is)
    (case kds_GuardedMode_GuardedMode => k_is)
    (case kds_CheckedMode_GuardedMode => k_is)
    (case kds_FreeMode_CheckedMode => k_is)
    (case kds_SavingMode_CheckedMode => k_is)
    (case kds_GuardedMode_CheckedMode => k_is)
    (case kds_CheckedMode_CheckedMode => k_is)
    all_goals exact Value.none
