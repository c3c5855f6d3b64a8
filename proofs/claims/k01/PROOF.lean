import PyProof.Rows.All
import Wide.All
import OpenK.AllK
import Wide.FinOn
import KE.KExcSuper
import HandS.Base
import HandS.Call
import HandS.Exc
import HandS.HeadWalk
import HandS.TryMany
import HandS.ExcField
import KE.KStateDown
import HandS.Words
import HandS.HeadHook1
import HandS.HeadHook2
import HandS.List
import HandS.Comp
import HandS.Iter
import HandS.Walk
import HandS.IsInst
import HandS.Evl
import PyProof.ReprReads
import HandS.Ends
import HandS.WordsExc
import HandS.Defaults
import HandS.HeadEnd
import PyProof.ReprRoads
import HandS.Dict
import KE.KExcInit
import HandS.ExcInit
import KE.KIsAll
import KE.KExcIs
import HandS.ExcValue
import HandS.ExcIs
import HandS.MakeKwOnly
import HandS.Text
import HandS.Steps
import HandS.Flow
import HandS.Wide
import HandS.Head0
import HandS.Head1
import HandS.Head2
import PySem.Challenge.RW_mostcalls_k01_error_classes
set_option Elab.async false
set_option linter.all false
set_option maxRecDepth 100000
set_option maxHeartbeats 4000000
namespace PySem
namespace MCX
open PySem.W PySem.Calls PyProof.Rows PySem.HandSPX
/-! ### an own error whose __init__ says super().__init__(f); self.f = f -/
def iA (f : Str) (p1 p2 : Pos) : Arguments := { posonlyargs := [], args := [{ arg := "self", annotation := none, pos := p1 }, { arg := f, annotation := none, pos := p2 }], vararg := none, kwonlyargs := [], kw_defaults := [], kwarg := none, defaults := [] }
def iB (f : Str) (q1 q2 q3 q4 q5 q6 q7 q8 q9 q10 : Pos) : List Stmt := [.Expr (.Call (.Attribute (.Call (.Name "super" q1) [] [] q2) "__init__" q3) [.Name f q4] [] q5) q6, .Assign [.Attribute (.Name "self" q7) f q8] (.Name f q9) q10]
def iS (f : Str) : Scope := { kind := .function, names := [(PySem.Str.ofString "self", .local), (f, .local), (PySem.Str.ofString "__class__", .free), (PySem.Str.ofString "super", .globalImplicit)], isGenerator := false, isCoroutine := false, more := [] }
structure FOk (f : Str) : Prop where
  dbg : (f == ("__debug__" : Str)) = false
  lf : (iS f).names.lookup f = some .local
  lc : (iS f).names.lookup ("__class__" : Str) = some .free
  ls : (iS f).names.lookup ("super" : Str) = some .globalImplicit
  ns : (("self" : Str) == f) = false
  bd : ∀ (qual : Str) (p1 p2 : Pos) (body : List Stmt) (doc pm : Value) (an : Option Addr) (cd ct : Value) (cc : Addr) (x v : Value), bindArgs (ksFn "__init__" qual (iA f p1 p2) body (iS f) .none .none doc pm an cd ct cc) ⟨[x, v], []⟩ = pure ([(("self" : Str), x), (f, v)] : List (Str × Value))
theorem fok_value : FOk "value" := ⟨by decide, rfl, rfl, rfl, by decide, fun _ _ _ _ _ _ _ _ _ _ _ _ => rfl⟩
theorem fok_field : FOk "field" := ⟨by decide, rfl, rfl, rfl, by decide, fun _ _ _ _ _ _ _ _ _ _ _ _ => rfl⟩
/-- what the written part says of the class at C and of its __init__ at fI -/
structure XTxt (prog : Program) (K : Frag) (mg : Str → Option Value) (nm f : Str) (C fI : Addr) : Prop where
  gC : mg nm = some (.ref C)
  fok : FOk f
  cls : ∃ nm q N bs bm sn sub ab col dd k0 k1 k2 k3 k5, K.lookup C = some (excClassObj nm q C N bs bm true sn sub ab col dd k0 k1 k2 k3 k5 "ValueError.__new__") ∧ refsVE bm = true
  sa : findIn K (.ref C) "__setattr__" = some (some (.builtin "object.__setattr__"))
  ga : findIn K (.ref C) "__getattribute__" = some (some (.builtin "BaseException.__getattribute__"))
  gg : findIn K (.ref C) "__getattr__" = some none
  noF : findIn K (.ref C) f = some none
  iC : findIn K (.ref C) "__init__" = some (some (.ref fI))
  tC : typeIn K (.ref fI) = some (.type "function")
  kC : keepIn K (.ref C) = true
  exC : subIn K (.ref C) (.type "BaseException") = some true
  veC : subIn K (.ref C) (.type "ValueError") = some true
  tyC : typeIn K (.ref C) = some (.type "type")
  hdC : hasDictIn K C = true
  te : exmOne K (.ref C) (.ref C) = some true
  mC : mroIn K C (.ref C) = some true
  su : ks_superIn K C C "__init__" = some (some (.builtin "ValueError.__init__"))
  tp : nsIn K cStatics "thirdparty.any" = some none
  noS : mg "super" = none
  top : (prog.main.scope.names.lookup ("super" : Str)).isSome = false
  fn : ∃ (qual : Str) (oc : Value) (od : Option Addr) (doc pm : Value) (an : Option Addr) (cda : Addr) (ct : Value) (cc : Addr) (osl : Array (Option Value)) (p1 p2 q1 q2 q3 q4 q5 q6 q7 q8 q9 q10 : Pos),
    K.lookup fI = some ⟨oc, od, .func (ksFn "__init__" qual (iA f p1 p2) (iB f q1 q2 q3 q4 q5 q6 q7 q8 q9 q10) (iS f) .none .none doc pm an (.ref cda) ct cc), osl⟩ ∧ codeIn K (.ref cda) qual = true ∧
    (∃ ccl cdd vs ccs file tf, K.lookup cda = some ⟨ccl, cdd, .fields vs, ccs⟩ ∧ vs[2]? = some (.str file tf) ∧ ((prog.main.file : Str) == file) = true) ∧
    (∃ cl cld csl, K.lookup cc = some ⟨cl, cld, .cell (some (.ref C)), csl⟩) ∧ (q3.endLine == q5.line) = true
/-- what __init__ leaves of a fresh exception at x -/
structure InitEnd (f : Str) (h h' : Heap) (x C dx t1 : Addr) (v : Value) : Prop where
  keep : ∀ b o, b ≠ x → h.get? b = some o → h'.get? b = some o
  obj : h'.get? x = some { cls := .ref C, dict := some dx, data := .fields #[.ref t1, .none, .none, .none, .bool false, .none] }
  dbig : h.objs.size ≤ dx
  dne : dx ≠ x
  ns : h'.Ns1 dx (fun y => if y = f then some v else none)
section
variable {prog : Program} {w : World} {A : Around} {E : Value → Shared → Prop} {R : Result → Shared → Prop} {s : Shared} {K : Frag} {mg : Str → Option Value} {nm f : Str} {C fI : Addr}
theorem sup_init (T : XTxt prog K mg nm f C fI) {x t0 : Addr} {v : Value} (X : K.In s.heap) (hlim : s.heap.NoLimit) (hx : s.heap.get? x = some (excO C t0)) (hnx : K.lookup x = none) (hroom : A.depth < recursionLimit)
    (hG : s.heap.Ns mainGlobals mg) (hB : ∃ mb, s.heap.Ns builtinsNs mb ∧ ∀ x : Str, x ≠ "__name__" → mb x = bootBuiltins x)
    (hq : ∀ h' tk dx t1, InitEnd f s.heap h' x C dx t1 v → R (.ok (.ret .none)) { s with heap := h', toks := tk }) :
    codeAny (model prog w) A (.call (.ref fI) ⟨[.ref x, v], []⟩) R s := by
  obtain ⟨qual, oc, od, doc, pm, an, cda, ct, cc, osl, p1, p2, q1, q2, q3, q4, q5, q6, q7, q8, q9, q10, hl, hcd, ⟨ccl, cdd, vs, ccs, file, tf, hcode, hvs, hfile⟩, ⟨cl, cld, csl, hcell⟩, hpos⟩ := T.fn
  obtain ⟨cnm, q, N, bs, bm, sn, sub, ab, col, dd, k0, k1, k2, k3, k5, hC, hbm⟩ := T.cls
  obtain ⟨mb, hBn, hBv⟩ := hB
  have hcl : clsIn K C = some { name := cnm, bases := bs, mro := .ref C :: bm, ns := N, qualname := q, hasDict := true, slotNames := sn, subclasses := sub, abstract := ab, collection := col, hasDel := false } := by unfold clsIn; rw [hC] <;> rfl
  obtain ⟨hp, g, d, tk, os⟩ := s
  refine ks_codeAny_call_defAt (fd := ksFn "__init__" qual (iA f p1 p2) (iB f q1 q2 q3 q4 q5 q6 q7 q8 q9 q10) (iS f) .none .none doc pm an (.ref cda) ct cc) (body := iB f q1 q2 q3 q4 q5 q6 q7 q8 q9 q10) (binds := [("self", .ref x), (f, v)]) hroom (X _ _ hl) rfl hlim (codeRec_of X hcd) rfl (BindsTo.of_eq (T.fok.bd _ _ _ _ _ _ _ _ _ _ _ _)) ?hce ?hlo (fun h₁ hns hk₁ => ?_) rfl rfl rfl
  case hce => intro y hy; simp only [iS, List.mem_cons, List.not_mem_nil, or_false] at hy; rcases hy with rfl | rfl | rfl | rfl <;> simp
  case hlo =>
    intro y hy
    simp only [List.mem_cons, List.not_mem_nil, or_false] at hy
    rcases hy with rfl | rfl
    · rfl
    · exact T.fok.lf
  have X₁ : K.In h₁ := X.keeps hk₁
  have hx₁ := hk₁ _ _ hx
  have mv : (fun y => ([("self", Value.ref x), (f, v)] : List (Str × Value)).reverse.lookup y) f = some v := by simp [List.lookup]
  have mself : (fun y => ([("self", Value.ref x), (f, v)] : List (Str × Value)).reverse.lookup y) "self" = some (.ref x) := by simp [List.lookup, T.fok.ns]
  have hns' : Heap.Ns h₁ hp.objs.size (fun y => ([("self", Value.ref x), (f, v)] : List (Str × Value)).reverse.lookup y) := hns
  have hcr := X₁ _ _ hC
  have I₁ : InstAt h₁ x (excO C t0) C none := ⟨hx₁, rfl, rfl, trivial⟩
  show _root_.PySem.wpAt _ _ _ (execs (iB f q1 q2 q3 q4 q5 q6 q7 q8 q9 q10) (ksEnv qual (iS f) hp.objs.size fI (.ref cda) cc)) _ _ _
  have hmc : ∀ ov, methodCall (.Call (.Name "super" q1) [] [] q2) "__init__" q3 q5 (ksEnv qual (iS f) hp.objs.size fI (.ref cda) cc) ov 1 (backTo q5 (starEach [.Name f q4] (ksEnv qual (iS f) hp.objs.size fI (.ref cda) cc))) [] = (do
      let (ff, first) ← holding [ov] (getMethod ov "__init__" (L2.plainOf (.Call (.Name "super" q1) [] [] q2) (ksEnv qual (iS f) hp.objs.size fI (.ref cda) cc)))
      callWith q5 ff first (backTo q5 (starEach [.Name f q4] (ksEnv qual (iS f) hp.objs.size fI (.ref cda) cc))) []) := fun ov => L2.mcall_line rfl hpos
  refine ks_wpAt_execs_cons (ks_wpAt_Expr_any (ks_wpAt_MethodCall (pl := L2.plainOf (.Call (.Name "super" q1) [] [] q2) (ksEnv qual (iS f) hp.objs.size fI (.ref cda) cc)) ?_ ?he))
  case he =>
    show (do
      let ov ← attributeBase (.Call (.Name "super" q1) [] [] q2) "__init__" (ksEnv qual (iS f) hp.objs.size fI (.ref cda) cc) (eval (.Call (.Name "super" q1) [] [] q2) (ksEnv qual (iS f) hp.objs.size fI (.ref cda) cc))
      standAt q3.atName
      methodCall (.Call (.Name "super" q1) [] [] q2) "__init__" q3 q5 (ksEnv qual (iS f) hp.objs.size fI (.ref cda) cc) ov 1 (backTo q5 (starEach [.Name f q4] (ksEnv qual (iS f) hp.objs.size fI (.ref cda) cc))) []) = _
    simp only [hmc]
  refine ks_wpAt_super_base (env := ksEnv qual (iS f) hp.objs.size fI (.ref cda) cc) (f := fI) (cc := cda) T.fok.ls T.fok.lc (by decide) rfl (X₁ _ _ hl) rfl rfl rfl (X₁ _ _ hcode) rfl hvs hfile T.top ?_
  refine ks_loadName_global rfl T.fok.ls (loadGlobal_builtin (env := ksEnv qual (iS f) hp.objs.size fI (.ref cda) cc) (hG.keeps hk₁) T.noS (hBn.keeps hk₁) ((hBv _ (by decide +kernel)).trans (by first | rfl | decide +kernel | kernel_rfl)) ⟨rfl, ?_⟩)
  refine wpAny_loadName_free rfl T.fok.lc rfl ⟨_, X₁ _ _ hcell, rfl⟩ ?_
  refine wpAny_loadName_local rfl rfl hns' mself ?_
  refine ks_wpAny_isType_cls (X₁ _ _ hC) rfl ⟨rfl, ?_⟩
  refine ks_wpAny_call_super (X₁ _ _ hC) rfl hx₁ rfl (fun c e => by cases e) (looks_mroIn X₁ T.mC) (fun h₂ e₂ k₂ => ?_)
  have X₂ : K.In h₂ := X₁.keeps k₂
  have hx₂ := k₂ _ _ hx₁
  have I₂ : InstAt h₂ x (excO C t0) C none := ⟨hx₂, rfl, rfl, trivial⟩
  have hns₂ := hns'.keeps k₂
  have hal : alongIn K "__init__" (((Value.ref C :: bm).dropWhile (· != .ref C)).drop 1) = some (some (.builtin "ValueError.__init__")) := by
    have z := T.su
    unfold ks_superIn at z
    rw [hcl] at z
    exact z
  refine kxs_getMethod kxs_ValueError (so := h₁.objs.size) (D := C) (x := x) (C := C) (l₀ := .ref C :: bm) (K := K) e₂ (looks_opaque X₂ T.tp) (fun A Q E s k q => wpAny_bind ((looks_clsIn X₂ hcl) A _ E s k (wpAny_pure q))) rfl X₂ hal (I₂.type.andThen (looks_subIn X₂ T.veC)) (ks_ne X₂ I₂ hcl) (by decide) ?_
  have k₃ : ∀ b o, h₂.get? b = some o → (h₂.push (kxs_mw "ValueError.__init__" x)).get? b = some o := fun b o e => Heap.get?_push_of_some _ e
  have hmw : (h₂.push (kxs_mw "ValueError.__init__" x)).get? h₂.objs.size = some (kxs_mw "ValueError.__init__" x) := Heap.get?_push_at rfl rfl
  refine kxs_callWith (i := "ValueError.__init__") (x := x) rfl (evalArgs_plain ?_)
  refine spliced_cons (wpAny_Name (wpAny_loadName_local rfl T.fok.lf (hns₂.keeps k₃) mv ?_) T.fok.dbg)
  refine spliced_nil ⟨hmw, ?_⟩
  have FB := F.excBase_ValueError
  refine wpAny_call (codeAny_of_tree ?_)
  show wpAny _ _ (callAny (.ref h₂.objs.size) ⟨[v], []⟩) _ _ _
  simp only [callAny]
  refine wpAny_bind (wpAny_load hmw ?_)
  simp only [kxs_mw, show (Value.type "method-wrapper" == Value.type "method" || Value.type "method-wrapper" == Value.type "builtin_function_or_method" || Value.type "method-wrapper" == Value.type "method-wrapper") = true by decide, if_true]
  refine KFB.if_so (by decide) ?_
  refine wpAny_bind (check_bound_init FB.toExcCallFacts (k₃ _ _ (X₂ _ _ hC)) (k₃ _ _ hx₂) rfl ?_)
  refine wpAny_bind (wpAny_pure (wpAny_pure ?_))
  refine ⟨plainId_quiet FB.init.plain _, codeAny_builtin FB.initEntry ?_⟩
  refine exc_init_tree (cls := .ref C) (t0 := t0) (dv := none) (c2 := .none) (c3 := .none) (b4 := .bool false) (k₃ _ _ hx₂) (by rw [sizeLine_eq]; exact (by decide : 1 ≤ 16777216)) fun h₄ k₄ hx₄ _ => ?_
  have hxL : hp.objs.size ≠ x := Nat.ne_of_gt (Heap.lt_size hx)
  have X₄ : K.In h₄ := fun a o e => k₄ a o (fun z => by rw [z, hnx] at e; cases e) (k₃ a o (X₂ a o e))
  have hns₄ : Heap.Ns h₄ hp.objs.size (fun y => ([("self", Value.ref x), (f, v)] : List (Str × Value)).reverse.lookup y) := by
    obtain ⟨oL, es, ep, hL, r⟩ := hns₂.keeps k₃
    exact ⟨oL, es, ep, k₄ _ _ hxL hL, r⟩
  show _root_.PySem.wpAt _ _ _ (execs _ _) _ _ _
  refine ks_wpAt_execs_cons (ks_wpAt_Assign_Attr (wpAt_of_wpAny ?_))
  refine wpAny_Name (wpAny_loadName_local rfl T.fok.lf hns₄ mv ?_) T.fok.dbg
  refine wpAny_Name (wpAny_loadName_local rfl rfl hns₄ mself ?_) (by decide)
  refine set_plain X₄ (od := none) ⟨hx₄, rfl, rfl, trivial⟩ T.sa ?_
  refine exc_osa X₄ hx₄ hcl (show refsVE (.ref C :: bm) = true from hbm) rfl T.noF (fun h₅ tk₅ dx k₅ dn dne hx₅ hn₅ => ?_)
  show _root_.PySem.wpAt _ _ _ (execs _ _) _ _ _
  have hle : hp.objs.size ≤ h₄.objs.size := Nat.le_of_lt hns₄.lt
  exact wpAt_of_wpAny (wpAny_execs_nil (hq h₅ tk₅ dx _ ⟨fun b o hb e => k₅ b o hb (k₄ b o hb (k₃ b o (k₂ b o (hk₁ b o e)))), hx₅, Nat.le_trans hle dn, dne, hn₅⟩))
end
end MCX
end PySem
namespace L2
open PySem PySem.Spec PyProof.Rows
/-! ### try .. several clauses, each «except X as n» -/
abbrev ClA : Type := Value × Nat × (Addr → Value → Option Addr → TS)
abbrev Ends.un (D : Ends) (i : Nat) : Ends := { nx := fun σ' H' => D.nx (σ'.set i none) H', rt := D.rt, bk := fun σ' H' => D.bk (σ'.set i none) H', ct := fun σ' H' => D.ct (σ'.set i none) H' }
def wManyA (K : PySem.W.Frag) (Wo : WX) (D : Ends) : List ClA → WX
  | [] => Wo
  | (c, i, ts) :: r => fun cls d σ H => ∃ b, PySem.W.exmOne K cls c = some b ∧ (b = true → ∀ a, H a = none → ts a cls d (D.un i) (σ.set i (some (.ref a))) H) ∧ (b = false → wManyA K Wo D r cls d σ H)
inductive HdsA (X : Cx) : List ExceptHandler → List ClA → Prop
  | nil : HdsA X [] []
  | cons {x n : Str} {i : Nat} {c : Value} {ts : Addr → Value → Option Addr → TS} {b₀ : Stmt} {su : List Stmt} {np po : Pos} {hs : List ExceptHandler} {l : List ClA} (hc : Names X x c) (hi : X.N[i]? = some n) (hn : X.env.kindOf n = some .local)
      (hsu : ∀ (a : Addr) (oe : Obj) (cls : Value) (d : Option Addr) (pn : List (Addr × Obj)), Zc cls d oe → (∃ vs, oe.data = .fields vs) → PSs (X.suite a ((a, oe) :: pn)) (b₀ :: su) (ts a cls d)) (r : HdsA X hs l) :
      HdsA X (.ExceptHandler (some (.Name x np)) (some n) (b₀ :: su) po :: hs) ((c, i, ts) :: l)
section
variable {X : Cx} {body : List Stmt} {k₀ : ExceptHandler} {ks : List ExceptHandler} {l : List ClA} {pos : Pos} {tb : WX → TS} {Wo : WX}
theorem ps_try_manyA (e1 : X.stack = X.env :: X.outer) (e2 : X.env.frame = some X.env.locals) (nd : X.N.Nodup) (tk : Takes X Wo)
    (hb : ∀ (W : WX) (pn : List (Addr × Obj)) (xe : Value → Shared → Prop), Takes (X.tr pn xe) W → PassesOwn (model X.prog X.w) X.A X.env xe → PSs (X.tr pn xe) body (tb W))
    (hh : HdsA X (k₀ :: ks) l) : PS X (.Try body (k₀ :: ks) [] [] pos) (fun D σ H => tb (wManyA X.K Wo D l) D σ H) := by
  refine ⟨fun pins s σ H D I hw => ?_⟩
  have ok := I.ok
  have efr : X.A.frames = some (X.env :: X.outer) := by rw [ok.frames, e1]
  refine wpAny_Try_except (wpAny_mono ((hb (wManyA X.K Wo D l) (X.pn ++ pins) _ (fun u s1 xx => ?cat) PassesOwn.looking).run [] s σ H D (I.toTry _) hw) (fun fl s1 sp => ?thru) (fun e s1 he => he))
  case thru =>
    cases fl with
    | next => exact let ⟨σ', H', J', q⟩ := sp; wpAny_execs_nil ⟨σ', H', J'.ofTry ok, q⟩
    | brk => exact let ⟨σ', H', J', q⟩ := sp; ⟨σ', H', J'.ofTry ok, q⟩
    | cont => exact let ⟨σ', H', J', q⟩ := sp; ⟨σ', H', J'.ofTry ok, q⟩
    | ret u => exact let ⟨v, σ', H', J', r, q⟩ := sp; ⟨v, σ', H', J'.ofTry ok, r, q⟩
  case cat =>
    obtain ⟨a, B, sI, pz, σ', H', cls, d, rfl, J0, nb, up, sky, na, os, ag, ww⟩ := xx
    have J : Inv X pins σ' H' sI := J0.ofTry ok
    rw [e1] at sky
    refine Sky.land Zc.steady efr e2 sky fun h3 fl3 up3 => ?_
    have J3 : Inv X pins σ' H' ⟨h3, s1.gens, s1.drawn, s1.toks, s1.os⟩ := J.landed nb fl3.1 (up.trans up3) os ag
    obtain ⟨o3, vs3, g3, z3, d3⟩ := fl3.there
    have out : a ∉ frs (X.env :: X.outer) := fun hm => by
      obtain ⟨_, o', e', nf⟩ := fl3.2.2.1.mem hm
      rw [g3] at e'
      cases e'
      exact nf _ d3
    have nL : a ≠ X.env.locals := fun z => out (List.mem_filterMap.mpr ⟨X.env, List.mem_cons_self, by rw [e2, z]⟩)
    have nF : a ∉ X.fs := fun hm => by
      obtain ⟨e, he, q⟩ := List.mem_filterMap.mp hm
      exact out (List.mem_filterMap.mpr ⟨e, List.mem_cons_of_mem _ he, q⟩)
    have S3 := J3.suite g3 d3 na nL nF
    have go : ∀ {hs : List ExceptHandler} {m : List ClA}, HdsA X hs m → wManyA X.K Wo D m cls d σ' H' → wpAny (model X.prog X.w) X.A (handleBy (.ref a) X.env hs) (SP X pins D) X.xe { s1 with heap := h3 } := by
      intro hs m hk
      induction hk with
      | nil =>
        intro wq
        refine wpAny_handleBy_nil ?_
        obtain ⟨_, _, _, oe, vs, T, oT, _, ge, _, gd, gt, _⟩ := id fl3
        have last : wpAny (model X.prog X.w) X.A (setFlight (.ref a) X.env.frame) (fun _ s4 => wpAny (model X.prog X.w) X.A (throw (.ref a) : Sem Flow) (SP X pins D) X.xe s4) X.xe ⟨h3, s1.gens, s1.drawn, s1.toks, s1.os⟩ := by
          rw [e2]
          exact HandSPX.setFlight_upZ fl3 fun h4 hh4 up4 => wpAny_throw (tk _ _ ⟨a, B, sI, pins, σ', H', cls, d, rfl, J, nb, (up.trans up3).trans up4, .inr (.inr (by rw [e1]; exact hh4)), na, os, ag, wq⟩)
        unfold PySem.passOn
        refine wpAny_bind (wpAny_field ge gd gt ?_)
        rw [if_neg (by simp : ¬ ((Value.ref T == Value.none) = true))]
        first | exact wpAny_bind (wpAny_pure (wpAny_bind last)) | exact wpAny_bind last
      | @cons x n i c ts b₀ su np po hs2 l2 hc hi hn hsu r ih =>
        rintro ⟨b, eb, yes, no⟩
        refine wpAny_handleBy_cons (codeAny_handlers_test ?_) (fun q => nomatch q)
        have L1 : PySem.W.Looks (model X.prog X.w) h3 (typeOf (.ref a)) cls := fun A Q E s k q => wpAny_typeOf_ref (k _ _ g3) (by rw [z3.1]; exact q)
        have L2' := PySem.W.exm_one (M := model X.prog X.w) J3.kIn L1 eb
        have look : ∀ {Q E : Value → Shared → Prop}, Q c ⟨h3, s1.gens, s1.drawn, s1.toks, s1.os⟩ → wpAny (model X.prog X.w) (X.A.mark (some (.ref a))) (eval (.Name x np) X.env) Q E ⟨h3, s1.gens, s1.drawn, s1.toks, s1.os⟩ := fun {Q E} q => by
          obtain ⟨hg, hdb, hm | ⟨hm, hv, hnn⟩⟩ := hc
          · exact ld_glob (X := X.suite a ((a, o3) :: (X.pn ++ pins))) S3 hg hm q hdb
          · exact ld_blt (X := X.suite a ((a, o3) :: (X.pn ++ pins))) S3 hg hm hv q hnn hdb
        refine look (L2'.here ?_)
        cases b with
        | false => exact ih (no rfl)
        | true =>
          refine codeAny_handlers_suite_as (HandSPX.lands_againZ fl3 fun h4 fl4 up4 => ?_)
          have J4 : Inv X pins σ' H' ⟨h4, s1.gens, s1.drawn, s1.toks, s1.os⟩ := J.landed nb fl4.1 ((up.trans up3).trans up4) os ag
          obtain ⟨o4, vs4, g4, z4, d4⟩ := fl4.there
          have S4 := J4.suite g4 d4 na nL nF
          refine store_ok (X := X.suite a ((a, o4) :: (X.pn ++ pins))) (v := .ref a) S4 nd hi (.inl hn) rfl (fun s5 S5 => ?_) (.inr hn)
          refine wpAny_mono ((hsu a o4 cls d (X.pn ++ pins) z4 ⟨_, d4⟩).run [] s5 _ H' _ S5 (yes rfl a na)) (fun fl s6 sp => ?_) (fun _ _ z => z.elim)
          have fin : ∀ {σ6 : St} {H6 : Hp} {Q : Shared → Prop}, Inv (X.suite a ((a, o4) :: (X.pn ++ pins))) [] σ6 H6 s6 → (∀ s7, Inv X pins (σ6.set i none) H6 s7 → Q s7) →
              wpAny (model X.prog X.w) X.A (do bindName X.env n .none; unbindBehindTheSuite X.env n po) (fun _ s7 => Q s7) X.xe s6 := fun S6 hq => gone_ok (S6.unsuite ok) nd hi hn hq
          cases fl with
          | next => exact let ⟨_, _, S6, q6⟩ := sp; fin S6 fun s7 J7 => ⟨_, _, J7, q6⟩
          | brk => exact let ⟨_, _, S6, q6⟩ := sp; fin S6 fun s7 J7 => ⟨_, _, J7, q6⟩
          | cont => exact let ⟨_, _, S6, q6⟩ := sp; fin S6 fun s7 J7 => ⟨_, _, J7, q6⟩
          | ret u => exact let ⟨_, _, _, S6, r6, q6⟩ := sp; fin S6 fun s7 J7 => ⟨_, _, _, J7, r6, q6⟩
    exact go hh ww
end
end L2
namespace PySem
namespace MCX
open PySem.W PySem.Calls PyProof.Rows PySem.HandSPX
/-- a made error: its own dict holds f -/
structure OwnMade (f : Str) (h h' : Heap) (e C d : Addr) (v : Value) : Prop where
  keep : ∀ b o, h.get? b = some o → h'.get? b = some o
  new : h.objs.size ≤ e
  obj : ∃ oe vs, h'.get? e = some oe ∧ oe.cls = .ref C ∧ oe.dict = some d ∧ oe.data = .fields vs ∧ vs[1]? = some .none
  dbig : h.objs.size ≤ d
  dne : d ≠ e
  ns : h'.Ns1 d (fun y => if y = f then some v else none)
section
variable {prog : Program} {w : World} {A : Around} {R : Result → Shared → Prop} {s : Shared} {K : Frag} {mg : Str → Option Value} {nm f : Str} {C fI : Addr}
theorem x_made (T : XTxt prog K mg nm f C fI) {v : Value} (X : K.In s.heap) (hlim : s.heap.NoLimit) (hroom : A.depth + 1 < recursionLimit)
    (hG : s.heap.Ns mainGlobals mg) (hB : ∃ mb, s.heap.Ns builtinsNs mb ∧ ∀ x : Str, x ≠ "__name__" → mb x = bootBuiltins x)
    (hq : ∀ h' tk e d, OwnMade f s.heap h' e C d v → R (.ok (.ret (.ref e))) { s with heap := h', toks := tk }) :
    codeAny (model prog w) A (.call (.ref C) ⟨[v], []⟩) R s := by
  obtain ⟨cnm, q, N, bs, bm, sn, sub, ab, col, dd, k0, k1, k2, k3, k5, hC, hbm⟩ := T.cls
  obtain ⟨hp, g, dr, tk, os⟩ := s
  have k : ∀ b o, hp.get? b = some o → ((hp.push (kdv_tup [v])).push (excO C hp.objs.size)).get? b = some o := fun b o e => Heap.get?_push_of_some _ (Heap.get?_push_of_some _ e)
  have hget : ((hp.push (kdv_tup [v])).push (excO C hp.objs.size)).get? (hp.objs.size + 1) = some (excO C hp.objs.size) := by heap_get
  have hnx : K.lookup (hp.objs.size + 1) = none := by
    cases e : K.lookup (hp.objs.size + 1) with
    | none => rfl
    | some o =>
      have z : hp.get? (hp.objs.size + 1) = some o := X _ _ e
      exact absurd (Nat.lt_of_succ_lt (Heap.lt_size z)) (Nat.lt_irrefl _)
  refine call_own F.excBase_ValueError (fun X => refsVE_contains X bm hbm) (X _ _ hC) (looks_findIn X T.iC) (fun self => bind_fn X self T.tC) (by rw [sizeLine_eq]; exact (by decide : 1 ≤ 16777216)) ?_
  refine sup_init (s := ⟨(hp.push (kdv_tup [v])).push (excO C hp.objs.size), g, dr, tk, os⟩) T (X.keeps k) (hlim.keeps k) hget hnx hroom (hG.keeps k) (let ⟨mb, b1, b2⟩ := hB; ⟨mb, b1.keeps k, b2⟩) fun h' tk' dx t1 ⟨k', hx, dn, dne, hns⟩ => ?_
  have old : ∀ b o, hp.get? b = some o → h'.get? b = some o := fun b o e => k' b o (Nat.ne_of_lt (Nat.lt_succ_of_lt (Heap.lt_size e))) (k b o e)
  have z : hp.objs.size + 1 + 1 ≤ dx := by
    first
      | (simpa only [Heap.size_push] using dn)
      | exact dn
      | (have q := dn; rw [Heap.size_push, Heap.size_push] at q; exact q)
  exact ⟨rfl, hq h' tk' (hp.objs.size + 1) dx ⟨old, Nat.le_succ _, ⟨_, _, hx, rfl, rfl, rfl, rfl⟩, Nat.le_trans (Nat.le_trans (Nat.le_succ _) (Nat.le_succ _)) z, dne, hns⟩⟩
end
end MCX
end PySem
namespace L2
open PySem PySem.Spec PyProof.Rows
theorem relO_one {g : Str} {v : V} {v' : Value} (r : RelV v v') (f : Str) : RelO (List.lookup f [(g, v)]) (if f = g then some v' else none) := by
  by_cases hw : f = g
  · subst hw
    rw [if_pos rfl]
    have q : List.lookup f [(f, v)] = some v := by simp [List.lookup]
    rw [q]
    exact r
  · rw [if_neg hw]
    have qw : (f == g) = false := by simpa using hw
    have q2 : List.lookup f [(g, v)] = none := by simp [List.lookup, qw]
    rw [q2]
    trivial
section
variable {X : Cx} {nm f : Str} {C fI : Addr}
/-- nm(e) -/
def tMkX (f : Str) (C : Addr) (ta : TA) : St → Hp → XK → Prop := fun σ H Q => ta σ H fun vs H1 => ∃ v, vs = [v] ∧ ∀ d, H1 d = none → Q (.ref C) (some d) (upd H1 d (.xd [(f, v)]))
theorem pmk_x {a : Expr} {ta : TA} {p pos : Pos} {k : Nat} (T : PySem.MCX.XTxt X.prog X.K X.mg nm f C fI) (hr : Room k X.A) (ha : PA X [a] ta) (hg : Gl X nm := by rfl) (hd : (nm == ("__debug__" : Str)) = false := by decide)
    (he : starEach (a :: []) X.env = (false, eval a X.env) :: starEach [] X.env := by rfl) (hpl : (backTo pos (starEach [] X.env)).any (·.1) = false := by rfl) :
    PMk X (.Call (.Name nm p) [a] [] pos) (tMkX f C ta) := by
  intro pins s σ H Q I h
  refine wpAny_Call_Name_kw (ld_glob I hg T.gC ?_ hd)
  refine PySem.W.callWith_K (h₀ := X.base) I.ok.mod.kin T.kC (thn (ha.run pos pins s σ H _ I h) fun us s1 hh => ?_) he hpl
  obtain ⟨vs, H1, I1, r1, v, ev, q1⟩ := hh
  subst ev
  refine ⟨I1.kIn, ?_⟩
  cases r1 with
  | cons rv rn =>
    rename_i v' us'
    cases rn
    show wpAny _ _ (call (.ref C) [v']) _ _ _
    have hlim := I1.nolimit
    have hG : s1.heap.Ns mainGlobals X.mg := I1.ok.mod.glob.keeps I1.bk
    have hB : ∃ mb, s1.heap.Ns builtinsNs mb ∧ ∀ x : Str, x ≠ "__name__" → mb x = bootBuiltins x := let ⟨mb, b1, b2⟩ := I1.ok.mod.blt; ⟨mb, b1.keeps I1.bk, b2⟩
    obtain ⟨hp, g, dr, tk, os⟩ := s1
    refine wpAny_call (PySem.MCX.x_made T I1.kIn hlim (by have := hr.dp; omega) hG hB fun h' tk' e d M => ?_)
    show MkP X pins σ Q (.ref e) ⟨h', g, dr, tk', os⟩
    obtain ⟨oe, fv, hoe, hc, hd, hdat, h1⟩ := M.obj
    have hns := M.ns
    obtain ⟨G', g1, g2⟩ := restrict h' fun b => decide (b ≠ e)
    have gk : ∀ b, b ≠ e → G'.get? b = h'.get? b := fun b hb => g1 b (decide_eq_true hb)
    have ge : G'.get? e = none := g2 e (by simp)
    have old : ∀ b o, hp.get? b = some o → G'.get? b = some o := fun b o q => (gk b (Nat.ne_of_lt (Nat.lt_of_lt_of_le (Heap.lt_size q) M.new))).trans (M.keep b o q)
    have ob : ObjOk X.prog X.w (upd H1 d (.xd [(f, v)])) G' d (.xd [(f, v)]) :=
      ⟨_, hns.at (fun o q => (gk d M.dne).trans q), fun g => relO_one rv g⟩
    have J : Inv X pins σ (upd H1 d (.xd [(f, v)])) ⟨G', g, dr, tk', os⟩ := I1.laid (t' := tk') old M.dbig ob
    refine ⟨e, oe, fv, ⟨G', g, dr, tk', os⟩, _, .ref C, some d, rfl, J, fun b o q => ?_, ge, hoe, ⟨hc, hd⟩, hdat, h1, ?_, rfl, I1.bare, raises_own T.exC T.tyC, q1 d (I1.hok.fresh M.dbig)⟩
    · by_cases hb : b = e
      · have q' : G'.get? b = some o := q
        rw [hb, ge] at q'; cases q'
      · exact (gk b hb).symm.trans q
    · rw [upd_ne (Ne.symm M.dne)]
      exact I1.hok.fresh M.new
/-- raise nm(e) -/
def tRaiseX (f : Str) (C : Addr) (W : WX) (ta : TA) : TS := fun _ σ H => tMkX f C ta σ H fun cls d H' => W cls d σ H'
theorem ps_raiseX {a : Expr} {ta : TA} {W : WX} {p pos pos2 : Pos} {k : Nat} (hc : X.calm = true) (T : PySem.MCX.XTxt X.prog X.K X.mg nm f C fI) (hr : Room k X.A) (tk : Takes X W) (ha : PA X [a] ta) (hg : Gl X nm := by rfl) (hd : (nm == ("__debug__" : Str)) = false := by decide)
    (he : starEach (a :: []) X.env = (false, eval a X.env) :: starEach [] X.env := by rfl) (hpl : (backTo pos (starEach [] X.env)).any (·.1) = false := by rfl) :
    PS X (.Raise (some (.Call (.Name nm p) [a] [] pos)) none pos2) (tRaiseX f C W ta) := ps_raise hc tk (pmk_x T hr ha hg hd he hpl)
theorem _root_.PySem.MCX.XTxt.xf {prog : Program} {K : PySem.W.Frag} {mg : Str → Option Value} (T : PySem.MCX.XTxt prog K mg nm f C fI) : XfC K C := ⟨T.ga, T.gg, T.exC, T.hdC⟩
end
end L2
namespace MCH
open PySem PySem.Spec PyProof.Rows L2 PySem.W PySem.MCX PySem.HandSPX He
/-! ### facts of own errors (super().__init__) by names, beside the layer's own facts -/
def asM (g : Addr → Option Obj) : Nat → List Addr
  | 0 => [mainGlobals, cStatics]
  | n + 1 => growD g (asM g n)
/-- an own error: its class's name, its field, its __init__ -/
structure XD where
  nm : Str
  f : Str
  st : Stmt
abbrev FnV : Type := Option (Str × Arguments × FuncBody × Scope × Addr × Addr)
def fnV (K : Frag) (x : XD) : FnV := match K.lookup (ma K (ga K x.nm) "__init__") with
  | some ⟨_, _, .func fd, _⟩ => some (fd.name, fd.params, fd.body, fd.scope, fd.globals, fd.builtins)
  | _ => none
def XD.val (x : XD) : FnV := some ("__init__", defArgs x.st, .stmts (defBody x.st), defScope x.st, mainGlobals, builtinsNs)
def clB (K : Frag) (C : Addr) : Bool := match K.lookup C with
  | some ⟨.type c, _, .cls cd, sl⟩ => decide (c = "type") && (match cd.mro, sl.toList with
    | .ref C' :: bm, [_, _, _, _, some (.builtin n), _] => decide (C' = C) && (decide (n = "ValueError.__new__") && (!cd.hasDel && (cd.hasDict && refsVE bm)))
    | _, _ => false)
  | _ => false
theorem clB_ok {K : Frag} {C : Addr} (h : clB K C = true) : ∃ nm q N bs bm sn sub ab col dd k0 k1 k2 k3 k5, K.lookup C = some (excClassObj nm q C N bs bm true sn sub ab col dd k0 k1 k2 k3 k5 "ValueError.__new__") ∧ refsVE bm = true := by
  unfold clB at h
  cases q : K.lookup C with
  | none => rw [q] at h; cases h
  | some o =>
    obtain ⟨oc, od, dt, sl⟩ := o
    rw [q] at h
    cases oc with
    | type c =>
      cases dt with
      | cls cd =>
        obtain ⟨h1, h2⟩ := ba h
        have e1 : c = "type" := of_decide_eq_true h1
        subst e1
        obtain ⟨nm, bs, mro, ns, qn, hd, sn, sb, ab, col, del⟩ := cd
        obtain ⟨sl⟩ := sl
        dsimp only at h2
        split at h2
        · rename_i C' bm k0 k1 k2 k3 n k5
          obtain ⟨a1, h3⟩ := ba h2
          obtain ⟨a2, h4⟩ := ba h3
          obtain ⟨a3, h5⟩ := ba h4
          obtain ⟨a4, a5⟩ := ba h5
          have z1 := of_decide_eq_true a1
          have z2 := of_decide_eq_true a2
          subst z1 z2
          simp only [Bool.not_eq_true'] at a3
          subst a3 a4
          exact ⟨nm, qn, ns, bs, bm, sn, sb, ab, col, od, k0, k1, k2, k3, k5, rfl, a5⟩
        · cases h2
      | _ => cases h
    | _ => cases dt <;> cases h
def fnB (prog : Program) (K : Frag) (C fI : Addr) : Bool := match K.lookup fI with
  | some ⟨_, _, .func fd, _⟩ => decide (fd.defaults = .none) && (decide (fd.kwdefaults = .none) && (match fd.code, fd.closure with
    | .ref cda, [(x, cc)] => decide (x = "__class__") && (codeIn K (.ref cda) fd.qualname && ((match K.lookup cda with
      | some ⟨_, _, .fields vs, _⟩ => (match (vs[2]? : Option Value) with
        | some (.str file _) => ((prog.main.file : Str) == file)
        | _ => false)
      | _ => false) && (match K.lookup cc with
      | some ⟨_, _, .cell (some (.ref D)), _⟩ => decide (D = C)
      | _ => false)))
    | _, _ => false))
  | _ => false
def xB (prog : Program) (K : Frag) (x : XD) : Bool :=
  eqO (nsIn K mainGlobals x.nm) (some (some (.ref (ga K x.nm)))) && (clB K (ga K x.nm) && (eqO (findIn K (.ref (ga K x.nm)) "__setattr__") (some (some (.builtin "object.__setattr__"))) &&
  (eqO (findIn K (.ref (ga K x.nm)) "__getattribute__") (some (some (.builtin "BaseException.__getattribute__"))) && (eqO (findIn K (.ref (ga K x.nm)) "__getattr__") (some none) && (eqO (findIn K (.ref (ga K x.nm)) x.f) (some none) &&
  (eqO (findIn K (.ref (ga K x.nm)) "__init__") (some (some (.ref (ma K (ga K x.nm) "__init__")))) && (decide (typeIn K (.ref (ma K (ga K x.nm) "__init__")) = some (.type "function")) && (keepIn K (.ref (ga K x.nm)) &&
  (decide (subIn K (.ref (ga K x.nm)) (.type "BaseException") = some true) && (decide (subIn K (.ref (ga K x.nm)) (.type "ValueError") = some true) && (decide (typeIn K (.ref (ga K x.nm)) = some (.type "type")) && (hasDictIn K (ga K x.nm) &&
  (decide (exmOne K (.ref (ga K x.nm)) (.ref (ga K x.nm)) = some true) && (decide (mroIn K (ga K x.nm) (.ref (ga K x.nm)) = some true) && (eqO (ks_superIn K (ga K x.nm) (ga K x.nm) "__init__") (some (some (.builtin "ValueError.__init__"))) &&
  (eqO (nsIn K cStatics "thirdparty.any") (some none) && (eqO (nsIn K mainGlobals "super") (some none) && fnB prog K (ga K x.nm) (ma K (ga K x.nm) "__init__"))))))))))))))))))
theorem xB_ok {prog : Program} {K : Frag} {h : Heap} {mg : Str → Option Value} (X : K.In h) (G : h.Ns mainGlobals mg) {x : XD} (c : xB prog K x = true) (e : fnV K x = x.val) (fok : FOk x.f) (htop : (prog.main.scope.names.lookup ("super" : Str)).isSome = false)
    {p1 p2 q1 q2 q3 q4 q5 q6 q7 q8 q9 q10 : Pos} (eA : defArgs x.st = iA x.f p1 p2) (eB : defBody x.st = iB x.f q1 q2 q3 q4 q5 q6 q7 q8 q9 q10) (eS : defScope x.st = iS x.f) (hpos : (q3.endLine == q5.line) = true) :
    XTxt prog K mg x.nm x.f (ga K x.nm) (ma K (ga K x.nm) "__init__") := by
  unfold xB at c
  simp only [Bool.and_eq_true] at c
  obtain ⟨c1, c2, c3, c4, c5, c6, c7, c8, c9, c10, c11, c12, c13, c14, c15, c16, c17, c18, c19⟩ := c
  refine { gC := mg_of X G (eqO_ok c1), fok := fok, cls := clB_ok c2, sa := eqO_ok c3, ga := eqO_ok c4, gg := eqO_ok c5, noF := eqO_ok c6, iC := eqO_ok c7, tC := of_decide_eq_true c8, kC := c9, exC := of_decide_eq_true c10, veC := of_decide_eq_true c11, tyC := of_decide_eq_true c12, hdC := c13, te := of_decide_eq_true c14, mC := of_decide_eq_true c15, su := eqO_ok c16, tp := eqO_ok c17, noS := mg_none_of X G (eqO_ok c18), top := htop, fn := ?_ }
  unfold fnB at c19
  unfold fnV XD.val at e
  cases q : K.lookup (ma K (ga K x.nm) "__init__") with
  | none => rw [q] at c19; cases c19
  | some o =>
    obtain ⟨oc, od, dt, osl⟩ := o
    rw [q] at c19 e
    cases dt with
    | func fd =>
      obtain ⟨n1, n2, n3, n4, n5, n6, n7, n8, n9, n10, n11, n12, n13, n14, n15⟩ := fd
      simp only [Option.some.injEq, Prod.mk.injEq] at e
      obtain ⟨h1, h3, h4, h5, h6, h8⟩ := e
      rw [eA] at h3
      rw [eB] at h4
      rw [eS] at h5
      subst h1 h3 h4 h5 h6 h8
      dsimp only at c19
      simp only [Bool.and_eq_true, decide_eq_true_eq] at c19
      obtain ⟨d1, d2, d3⟩ := c19
      subst d1 d2
      split at d3
      · rename_i cda y cc
        simp only [Bool.and_eq_true, decide_eq_true_eq] at d3
        obtain ⟨m1, m2, m3, m4⟩ := d3
        subst m1
        refine ⟨n2, oc, od, n10, n11, n12, cda, n14, cc, osl, p1, p2, q1, q2, q3, q4, q5, q6, q7, q8, q9, q10, rfl, m2, ?_, ?_, hpos⟩
        · split at m3
          · rename_i _ _ vs _ e1
            split at m3
            · rename_i file tf e2
              exact ⟨_, _, vs, _, file, tf, e1, e2, m3⟩
            · cases m3
          · cases m3
        · split at m4
          · rename_i _ _ D _ e1
            have z := of_decide_eq_true m4
            subst z
            exact ⟨_, _, _, e1⟩
          · cases m4
      · cases d3
    | _ => cases c19
/-! ### the hook -/
abbrev AlM : Type := AlD × Bool × List FnV
def obsM (n : Nat) (prog : Program) (fa : List Fa) (fn : List DefD) (xs : List XD) (ex : Frag → Bool) (g : Addr → Option Obj) : AlM :=
  (obsD fa fn (frG g (asM g n)), (xs.all fun x => xB prog (frG g (asM g n)) x) && ex (frG g (asM g n)), xs.map fun x => fnV (frG g (asM g n)) x)
def valM (fn : List DefD) (xs : List XD) : AlM := (valD fn, true, xs.map XD.val)
structure SaysM (prog : Program) (fa : List Fa) (fn : List DefD) (xs : List XD) (ex : Frag → Bool) (K : Frag) : Prop where
  d : SaysD fa fn K
  x : ∀ x ∈ xs, xB prog K x = true ∧ fnV K x = x.val
  e : ex K = true
theorem map_eq_at {α β : Type} {f g : α → β} : ∀ {l : List α}, l.map f = l.map g → ∀ x ∈ l, f x = g x
  | [], _, x, hx => by cases hx
  | a :: l, h, x, hx => by
    simp only [List.map_cons, List.cons.injEq] at h
    rcases List.mem_cons.mp hx with rfl | hx
    · exact h.1
    · exact map_eq_at h.2 x hx
theorem saysM_of {n : Nat} {prog : Program} {fa : List Fa} {fn : List DefD} {xs : List XD} {ex : Frag → Bool} {g : Addr → Option Obj} (e : obsM n prog fa fn xs ex g = valM fn xs) : SaysM prog fa fn xs ex (frG g (asM g n)) := by
  have e1 := congrArg (fun z : AlM => z.1) e
  have e2 := congrArg (fun z : AlM => z.2.1) e
  have e3 := congrArg (fun z : AlM => z.2.2) e
  obtain ⟨b1, b2⟩ := ba e2
  exact ⟨e1, fun x hx => ⟨List.all_eq_true.mp b1 x hx, map_eq_at e3 x hx⟩, b2⟩
def hookM (n : Nat) (prog : Program) (fa : List Fa) (fn : List DefD) (xs : List XD) (ex : Frag → Bool) : PySem.W.Hook where
  α := AlM
  obs := fun s => obsM n prog fa fn xs ex s.heap.get?
  val := fun _ => valM fn xs
  says := fun w h => ∃ K : PySem.W.Frag, K.In h ∧ SaysM prog fa fn xs ex K
  of := fun _ _ e => ⟨_, frG_in, saysM_of e⟩
  keeps := fun _ _ _ ⟨K, hK, c⟩ k => ⟨K, PySem.W.Frag.In.keeps hK k, c⟩
theorem obsM_eq {n : Nat} {prog : Program} {fa : List Fa} {fn : List DefD} {xs : List XD} {ex : Frag → Bool} {g : Addr → Option Obj} {s : Shared} (h : ∀ a, g a = s.heap.get? a) : obsM n prog fa fn xs ex g = (hookM n prog fa fn xs ex).obs s := by
  have e : g = s.heap.get? := funext h
  rw [e] <;> rfl
end MCH
namespace L2
open PySem PySem.Spec PyProof.Rows
/-! ### data behind a value: None, bools, ints, texts, lists, tuples, the empty dict -/
mutual
inductive Dq (K : PySem.W.Frag) (H : Hp) : V → PyData → Prop
  | non : Dq K H .non .none
  | bl (b : Bool) : Dq K H (.bl b) (.bool b)
  | int (i : Int) : Dq K H (.int i) (.int i)
  | str (x : Str) : x.length ≤ sizeLine → Dq K H (.str x) (.str x)
  | lst {a : Addr} {xs : List V} {ds : List PyData} : SqL K H a xs → DqA K H xs ds → Dq K H (.ref a) (.list ds)
  | tup {a : Addr} {xs : List V} {ds : List PyData} : SqT K H a xs → DqA K H xs ds → Dq K H (.ref a) (.tuple ds)
  | dct {a : Addr} : H a = some (.dK []) → Dq K H (.ref a) (.dict [])
inductive DqA (K : PySem.W.Frag) (H : Hp) : List V → List PyData → Prop
  | nil : DqA K H [] []
  | cons {v : V} {vs : List V} {d : PyData} {ds : List PyData} : Dq K H v d → DqA K H vs ds → DqA K H (v :: vs) (d :: ds)
end
theorem SqT.upT {K : PySem.W.Frag} {H H' : Hp} {a : Addr} {xs : List V} (e : Same H H') (h : SqT K H a xs) : SqT K H' a xs := by
  rcases h with h | h
  · rcases h with h | ⟨o, h⟩
    · exact .inl (.inl (e _ _ h))
    · exact .inl (.inr ⟨o, e _ _ h⟩)
  · exact .inr h
mutual
theorem Dq.up {K : PySem.W.Frag} {H H' : Hp} (e : Same H H') : ∀ {v : V} {d : PyData}, Dq K H v d → Dq K H' v d
  | _, _, .non => .non
  | _, _, .bl b => .bl b
  | _, _, .int i => .int i
  | _, _, .str x h => .str x h
  | _, _, .lst h a => .lst (e.seq h) (DqA.up e a)
  | _, _, .tup h a => .tup (SqT.upT e h) (DqA.up e a)
  | _, _, .dct h => .dct (e _ _ h)
theorem DqA.up {K : PySem.W.Frag} {H H' : Hp} (e : Same H H') : ∀ {vs : List V} {ds : List PyData}, DqA K H vs ds → DqA K H' vs ds
  | _, _, .nil => .nil
  | _, _, .cons h r => .cons (Dq.up e h) (DqA.up e r)
end
theorem DqA.len {K : PySem.W.Frag} {H : Hp} : ∀ {vs : List V} {ds : List PyData}, DqA K H vs ds → vs.length = ds.length
  | _, _, .nil => rfl
  | _, _, .cons _ r => by simp [DqA.len r]
theorem DqA.at {K : PySem.W.Frag} {H : Hp} : ∀ {vs : List V} {ds : List PyData} {i : Nat} {v : V}, DqA K H vs ds → vs[i]? = some v → ∃ d, ds[i]? = some d ∧ Dq K H v d
  | _, _, _, _, .nil, e => by simp at e
  | _, _, 0, _, .cons h _, e => by simp at e; subst e; exact ⟨_, rfl, h⟩
  | _, _, i + 1, v, .cons _ r, e => by
    obtain ⟨d, h1, h2⟩ := DqA.at (i := i) (v := v) r (by simpa using e)
    exact ⟨d, by simpa using h1, h2⟩
/-- no dict within -/
def noDct : PyData → Bool := fun d => !d.hasDict
mutual
theorem Dq.dp {K : PySem.W.Frag} {H : Hp} : ∀ {v : V} {d : PyData}, Dq K H v d → d.hasDict = false → Dp K H v d
  | _, _, .non, _ => .non
  | _, _, .bl b, _ => .bl b
  | _, _, .int i, _ => .int i
  | _, _, .str x _, _ => .str x
  | _, _, .lst h a, n => .lst h (DqA.dp a (by simpa [PyData.hasDict] using n))
  | _, _, .tup h a, n => .tup h (DqA.dp a (by simpa [PyData.hasDict] using n))
  | _, _, .dct h, n => by simp [PyData.hasDict] at n
theorem DqA.dp {K : PySem.W.Frag} {H : Hp} : ∀ {vs : List V} {ds : List PyData}, DqA K H vs ds → PyData.hasDictAll ds = false → DpAll K H vs ds
  | _, _, .nil, _ => .nil
  | _, _, .cons h r, n => by
    simp [PyData.hasDictAll] at n
    exact .cons (Dq.dp h n.1) (DqA.dp r n.2)
end
/-! ### isinstance by data -/
def tyD : PyData → String
  | .none => "NoneType"
  | .bool _ => "bool"
  | .int _ => "int"
  | .str _ => "str"
  | .list _ => "list"
  | .tuple _ => "tuple"
  | .dict _ => "dict"
theorem Dq.ty {K : PySem.W.Frag} {H : Hp} {v : V} {d : PyData} (h : Dq K H v d) : TyX K H v (.type (tyD d)) := by
  cases h with
  | non => exact .base .non
  | bl b => exact .base (.bl b)
  | int i => exact .base (.int i)
  | str x _ => exact .base (.str x)
  | lst h _ =>
    rcases h with (h | ⟨o, h⟩) | ⟨o, _, _, h, hc, _⟩
    · exact .base (.lst h)
    · exact .base (.frz h)
    · exact .kList h hc
  | tup h _ =>
    rcases h with (h | ⟨o, h⟩) | ⟨o, _, _, h, hc, _⟩
    · exact .base (.tup h)
    · exact .fTuple h
    · exact .kTuple h hc
  | dct h => exact .base (.dK h)
def isA (d : PyData) (T : String) : Bool := (kitB (tyD d) T).getD false
def TOK (T : String) : Prop := (kitB "NoneType" T).isSome = true ∧ (kitB "bool" T).isSome = true ∧ (kitB "int" T).isSome = true ∧ (kitB "str" T).isSome = true ∧ (kitB "list" T).isSome = true ∧ (kitB "tuple" T).isSome = true ∧ (kitB "dict" T).isSome = true
theorem isA_kit {K : PySem.W.Frag} {d : PyData} {T : String} (t : TOK T) : PySem.W.kitOne K (.type (tyD d)) (.type T) = some (isA d T) := by
  refine kit_ty ?_
  obtain ⟨h1, h2, h3, h4, h5, h6, h7⟩ := t
  unfold isA
  have z : ∀ o : Option Bool, o.isSome = true → o = some (o.getD false) := fun o h => by cases o with | none => cases h | some b => rfl
  cases d <;> (apply z; assumption)
theorem tok_int : TOK "int" := by unfold TOK; decide +kernel
theorem tok_bool : TOK "bool" := by unfold TOK; decide +kernel
theorem tok_str : TOK "str" := by unfold TOK; decide +kernel
theorem tok_tuple : TOK "tuple" := by unfold TOK; decide +kernel
theorem tok_list : TOK "list" := by unfold TOK; decide +kernel
theorem tok_dict : TOK "dict" := by unfold TOK; decide +kernel
def isStrD : PyData → Bool | .str _ => true | _ => false
def isTupD : PyData → Bool | .tuple _ => true | _ => false
def isBoolD : PyData → Bool | .bool _ => true | _ => false
theorem isA_str (d : PyData) : isA d "str" = isStrD d := by
  unfold isA
  cases d <;> (unfold tyD isStrD; dsimp only; decide +kernel)
theorem isA_tuple (d : PyData) : isA d "tuple" = isTupD d := by
  unfold isA
  cases d <;> (unfold tyD isTupD; dsimp only; decide +kernel)
theorem isA_bool (d : PyData) : isA d "bool" = isBoolD d := by
  unfold isA
  cases d <;> (unfold tyD isBoolD; dsimp only; decide +kernel)
def rIsD (K : PySem.W.Frag) : List V → Hp → VK → Prop := fun xs H Q => ∃ (v : V) (d : PyData) (T : String), xs = [v, .ty T] ∧ Dq K H v d ∧ TOK T ∧ Q (.bl (isA d T)) H
theorem call_isD {X : Cx} : CallR X (.builtin "isinstance") (rIsD X.K) := by
  intro pins s σ H xs us Q I r h
  obtain ⟨v, d, T, rfl, hd, ht, q⟩ := h
  exact call_isi pins s σ H [v, .ty T] us Q I r ⟨v, .ty T, _, _, isA d T, rfl, .ty T, hd.ty, isA_kit ht, q⟩
/-! ### ifs whose test is known -/
section
variable {c A B : Prop} [Decidable c]
theorem iteY (hc : c) (h : A) : if decide c = true then A else B := by
  rw [decide_eq_true hc, if_pos rfl]
  exact h
theorem iteN (hc : ¬ c) (h : B) : if decide c = true then A else B := by
  rw [decide_eq_false hc, if_neg Bool.false_ne_true]
  exact h
theorem iteNY (hc : c) (h : B) : if (!decide c) = true then A else B := by
  rw [decide_eq_true hc]
  exact h
theorem iteNN (hc : ¬ c) (h : A) : if (!decide c) = true then A else B := by
  rw [decide_eq_false hc]
  exact h
theorem iteB {b : Bool} (h1 : b = true → A) (h2 : b = false → B) : if b = true then A else B := by
  cases b with
  | true => exact h1 rfl
  | false => exact h2 rfl
end
/-! ### a comprehension whose element is pure -/
theorem take_snoc {α : Type} : ∀ {l : List α} {i : Nat} {x : α}, l[i]? = some x → l.take i ++ [x] = l.take (i + 1)
  | [], i, x, h => by simp at h
  | a :: l, 0, x, h => by simp at h; subst h; rfl
  | a :: l, i + 1, x, h => by
    have z := take_snoc (l := l) (i := i) (x := x) (by simpa using h)
    show a :: (l.take i ++ [x]) = a :: l.take (i + 1)
    rw [z]
theorem lc_map {J : It} {n j : Nat} {G : Hp → Prop} {Yv : Nat → V → Prop} {te : TE} {vs : List Nat} {σ : St} {H1 : Hp} {D : Addr} {Qd : Hp → Prop} (w : Walk J n G (fun i H x H' => H' = H ∧ Yv i x)) (ys : List V) (hn : ys.length = n) (hz : n ≤ sizeLine)
    (hG : ∀ acc, G (upd H1 D (.lst acc))) (hw : ∀ x, wipe ((wipe σ vs).set j (some x)) vs = wipe σ vs)
    (hs : ∀ (i : Nat) (x : V) (acc : List V) (Q : VK), i < n → Yv i x → (∀ y, ys[i]? = some y → Q y (upd H1 D (.lst acc))) → te ((wipe σ vs).set j (some x)) (upd H1 D (.lst acc)) Q)
    (hd : Qd (upd H1 D (.lst ys))) :
    ∃ W : Nat → Nat → Hp → Prop, (∃ m, W 0 m (upd H1 D (.lst []))) ∧ ∀ i m H, W i m H →
      (J.stop i H ∧ Qd H) ∨ (J.go i H ∧ ∃ Nx : Hp → Prop, (∀ H', Nx H' → ∃ m', m' < m ∧ W (i + 1) m' H') ∧ ∀ x H', J.yld i H x H' → gName j x (wipe σ vs) H' fun σ2 H2 => wipe σ2 vs = wipe σ vs ∧ tYes σ2 H2 fun b H3 =>
        if b = true then te σ2 H3 fun y H4 => ∃ acc, H4 D = some (.lst acc) ∧ acc.length < sizeLine ∧ Nx (upd H4 D (.lst (acc ++ [y]))) else Nx H3) := by
  refine lc_it w (fun i H => H = upd H1 D (.lst (ys.take i))) rfl (fun i H _ e => by rw [e]; exact hG _) ?_ (fun H e => ?_)
  · rintro i x H H' hi rfl ⟨rfl, hy⟩
    refine ⟨hw x, ?_⟩
    refine hs i x _ _ hi hy fun y ey => ⟨ys.take i, upd_same, ?_, ?_⟩
    · rw [List.length_take]
      exact Nat.lt_of_lt_of_le (Nat.lt_of_le_of_lt (Nat.min_le_left _ _) hi) hz
    · rw [upd_upd, take_snoc ey]
  · subst e
    rw [← hn, List.take_length]
    exact hd
/-- repr(x), by the data behind x -/
def rRepr (K : PySem.W.Frag) : List V → Hp → VK → Prop := fun xs H Q => ∃ (v : V) (d : PyData), xs = [v] ∧ Dp K H v d ∧ d.showable = true ∧ d.hasDict = false ∧ d.depth ≤ 60 ∧ d.shown.length ≤ sizeLine ∧ Q (.str d.shown) H
end L2
namespace L2
open PySem PySem.Spec PyProof.Rows
/-! ### promises of defs where no repr is under way (A.guards = some []) -/
structure FnG (P : Program) (w : World) (K : PySem.W.Frag) (mg : Str → Option Value) (base : Heap) (CX : CXT) (k : Nat) (f : Addr) (fd : FuncData) (ps : List Str) (sp : Sp) : Prop where
  len : ∀ vs H Q E, sp vs H Q E → vs.length = ps.length
  run : ∀ (A : Around) (outer : List Env) (s : Shared) (H : Hp) (args : Args) (us : List Value) (vs : List V) (Q : VK) (E : XK), A.guards = some [] → Room k A → Env0 P w K mg base A outer s H → BindsTo s fd args (ps.zip us) → Vals vs us → sp vs H Q E →
    codeAny (model P w) A (.call (.ref f) args) (CR CX outer P w H s Q E) s
section
variable {P : Program} {w : World} {K : PySem.W.Frag} {mg : Str → Option Value} {base : Heap} {CX : CXT} {k : Nat} {f : Addr} {fd : FuncData} {ps : List Str} {sp : Sp}
theorem FnOk.g (F : FnOk P w K mg base CX k f fd ps sp) : FnG P w K mg base CX k f fd ps sp := ⟨F.len, fun A o s H a us vs Q E _ hr => F.run A o s H a us vs Q E hr⟩
theorem FnG.mono {j : Nat} (F : FnG P w K mg base CX j f fd ps sp) (h : j ≤ k) : FnG P w K mg base CX k f fd ps sp := ⟨F.len, fun A o s H a us vs Q E hg hr => F.run A o s H a us vs Q E hg (hr.mono h)⟩
theorem FunD.okG {x qual : Str} {params : Arguments} {body : List Stmt} {scope : Scope} {dvs : List V} {kws : List (Str × V)} {N : List Str} (F : FunD K x qual params body scope dvs kws f fd) (S : FnScope N ps scope) (len : ∀ vs H Q E, sp vs H Q E → vs.length = ps.length)
    (hbody : ∀ (cdv : Value) (A : Around) (outer : List Env) (s : Shared) (H : Hp) (vs : List V) (Q : VK) (E : XK), A.guards = some [] → Room k (A.deeper (envOfC qual scope s.heap.objs.size f cdv)) → sp vs H Q E →
      ∃ t, PSs (cxOf CX P w K mg base N qual scope f cdv A outer s H E) body t ∧ t { nx := fun _ H' => Q .non H', rt := Q } (start N vs) H) : FnG P w K mg base CX (k + 1) f fd ps sp := by
  obtain ⟨oc, od, dV, kV, doc, pm, an, cdv, ct, osl, rfl, lk, hcd, _, _⟩ := F.ex
  refine ⟨len, fun A outer s H args us vs Q E hgd hr e0 hbn rv hsp => ?_⟩
  have KX : K.In s.heap := e0.mod.kin.keeps fun b o e => (e0.bs b o e).1
  have kinds : ∀ y ∈ ps.zip us, scope.names.lookup y.1 = some .local ∨ (scope.names.lookup y.1 = some .cell ∧ ((cellsFrom (s.heap.objs.size + 1) scope.names []).lookup y.1).isSome = true) := by
    rintro ⟨n, v⟩ hy
    exact (S.par n (List.of_mem_zip hy).1).imp id fun q => ⟨q, PySem.W.cellsFrom_some _ _ _ (.inl q)⟩
  refine codeAny_call_function hr.depth (KX _ _ lk) rfl S.co S.gen rfl (PySem.W.codeRec_of KX hcd) (hbn _ _ _ _ (wpAny_newFunctionEnv_cells S.kind kinds fun env he s1 x => ?_))
  subst he
  refine ⟨(e0.mod.nolimit.keeps fun b o e => (e0.bs b o e).1).keeps x.toInCall.keep, codeAny_func ?_⟩
  obtain ⟨t, ht, hq⟩ := hbody cdv A outer s H vs Q E hgd (hr.deeper _) hsp
  have J0 := inv_start (CX := CX) (E := E) S hr.hd e0 (len _ _ _ _ hsp) rv x
  refine wpAny_mono (ht.run [] s1 (start N vs) H _ J0 hq) (fun fl s' hs => ?_) fun e s' hs => hs
  cases fl with
  | ret u => exact let ⟨v, σ', H', J, rz, q⟩ := hs; ⟨v, H', J.os, J.bare, J.base, J.hok, rz, q⟩
  | next => exact let ⟨σ', H', J, q⟩ := hs; ⟨.non, H', J.os, J.bare, J.base, J.hok, rfl, q⟩
  | brk => exact let ⟨_, _, _, q⟩ := hs; q.elim
  | cont => exact let ⟨_, _, _, q⟩ := hs; q.elim
end
section
variable {X : Cx} {CX : CXT} {k : Nat} {f : Addr} {fd : FuncData} {ps : List Str} {sp : Sp} {dvs : List V} {ds : List Value} {E : XK} {x : Str} {p pos : Pos} {e : Expr} {es : List Expr} {t : TA}
theorem run_fnG {pins : List (Addr × Obj)} {σ : St} {H : Hp} {s : Shared} {Q : VK} {us : List Value} {vs : List V} (F : FnG X.prog X.w X.K X.mg X.base CX k f fd ps sp) (hgd : X.A.guards = some []) (hr : Room k X.A) (hb : Binds X.K fd ps ds) (hd : Vals dvs ds) (hx : Passes CX X E)
    (I : Inv X pins σ H s) (r : Vals vs us) (h : sp (vs ++ dvs) H Q E) : wpAny (model X.prog X.w) X.A (call (.ref f) us) (EP X pins σ Q) X.xe s := by
  have rr : Vals (vs ++ dvs) (us ++ ds) := r.append hd
  have hl : (us ++ ds).length = ps.length := rr.length ▸ F.len _ _ _ _ h
  refine wpAny_call (codeAny_mono (F.run X.A X.stack s H ⟨us, []⟩ (us ++ ds) (vs ++ dvs) Q E hgd hr I.env0 (hb s us I.kIn hl) rr h) fun r s' hq => ?_)
  match r, hq with
  | .error e, hq => exact hx pins σ H s e s' I hq
  | .ok (.ret u), hq => exact I.after hq
  | .ok .next, hq => exact hq.elim
  | .ok .brk, hq => exact hq.elim
  | .ok .cont, hq => exact hq.elim
/-- f(e, ..) -/
theorem pe_callG (F : FnG X.prog X.w X.K X.mg X.base CX k f fd ps sp) (hgd : X.A.guards = some []) (hr : Room k X.A) (hg : Gl X x) (hm : X.mg x = some (.ref f)) (hk : PySem.W.keepIn X.K (.ref f) = true) (hb : Binds X.K fd ps ds) (hd : Vals dvs ds) (hx : Passes CX X E)
    (ha : PA X (e :: es) t) (hdb : (x == ("__debug__" : Str)) = false := by decide) (he : starEach (e :: es) X.env = (false, eval e X.env) :: starEach es X.env := by rfl) (hpl : (backTo pos (starEach es X.env)).any (·.1) = false := by rfl) :
    PE X (.Call (.Name x p) (e :: es) [] pos) (tCall sp dvs E t) :=
  ⟨fun pins s σ H Q I h => wpAny_Call_Name_kw (ld_glob I hg hm (PySem.W.callWith_K (h₀ := X.base) I.ok.mod.kin hk (thn (ha.run pos pins s σ H _ I h) fun us s1 ⟨vs, H1, I1, r, q⟩ => ⟨I1.kIn, run_fnG F hgd hr hb hd hx I1 r q⟩) he hpl) hdb)⟩
theorem call_repr (hgd : X.A.guards = some []) (hu : X.A.units + 64 < cLine) : CallR X (.builtin "repr") (rRepr X.K) := by
  intro pins s σ H xs us Q I r h
  obtain ⟨v, d, rfl, hd, sh, nd, dp, hz, q⟩ := h
  obtain ⟨u, rfl, ru⟩ := vals1 r
  obtain ⟨as, hr⟩ := Dp.reads I d v u hd ru
  cases hd with
  | non => cases (show u = Value.none from ru); exact PySem.P.repr_of_none ⟨.str _, H, I.tok _, ⟨_, rfl⟩, q⟩
  | bl b => cases (show u = Value.bool b from ru); exact PySem.P.repr_of_bool ⟨.str _, H, I.tok _, ⟨_, rfl⟩, q⟩
  | int i =>
    obtain ⟨t, rfl⟩ := (show ∃ t, u = Value.int i t from ru)
    exact PySem.P.repr_of_int (by simpa [PyData.showable] using sh) ⟨.str _, H, I.tok _, ⟨_, rfl⟩, q⟩
  | str x =>
    obtain ⟨t, rfl⟩ := (show ∃ t, u = Value.str x t from ru)
    exact PySem.P.repr_of_str ⟨.str _, H, I.tok _, ⟨_, rfl⟩, q⟩ hz
  | lst hs ha =>
    cases ru
    exact repr_of_reads' hr sh (fun z => by rw [nd] at z; cases z) hgd (by omega) (fun _ _ e => e) (fun h' u tk hk => ⟨.str _, H, I.kept (t' := tk) hk, ⟨_, rfl⟩, q⟩) hz
  | tup hs ha =>
    cases ru
    exact repr_of_reads' hr sh (fun z => by rw [nd] at z; cases z) hgd (by omega) (fun _ _ e => e) (fun h' u tk hk => ⟨.str _, H, I.kept (t' := tk) hk, ⟨_, rfl⟩, q⟩) hz
end
end L2
namespace L2
open PySem PySem.Spec PyProof.Rows
/-! ### the law's end over such a promise -/
section
variable {P : Program} {w : World} {K : PySem.W.Frag} {mg mb : Str → Option Value} {CX : CXT} {k : Nat} {fa a : Addr} {fd : FuncData} {x : Str} {sp : Sp} {s₁ : Shared} {vs : List Value} {ns : List Int}
/-- the goal of a law's call -/
abbrev LawGoal (P : Program) (w : World) (fa a : Addr) (s₁ : Shared) : Prop := codeAny (model P w) callerA (.call (.ref fa) ⟨[.ref a], []⟩) (fun r s' => r = .ok (.ret (.bool true)) ∧ OldK s₁.heap s'.heap ∧ s'.os = s₁.os ∧ AllBare s'.gens) s₁
theorem law_callG (KX : K.In s₁.heap) (hns : s₁.heap.Ns mainGlobals mg) (hb : s₁.heap.Ns builtinsNs mb) (hbb : ∀ x : Str, x ≠ "__name__" → mb x = bootBuiltins x) (hlim : s₁.heap.NoLimit) (hg : s₁.gens = #[])
    (ha : s₁.heap.get? a = some { cls := .type "list", data := .seq vs.toArray }) (hi : IntsAre vs ns) (hl : ns.length ≤ sizeLine) (hr : Room k callerA)
    (F : ∀ base : Heap, K.In base → base.Ns mainGlobals mg → FnG P w K mg base CX k fa fd [x] sp) (hbind : ∀ (s : Shared) (u : Value), BindsTo s fd ⟨[u], []⟩ [(x, u)])
    (hsp : ∀ H : Hp, Only H → SqL K H a (ns.map V.int) → sp [.ref a] H (fun v _ => v = .bl true) fun _ _ _ => False)
    (hCX : ∀ H e s', CX [] H s₁ (fun _ _ _ => False) e s' → False) : LawGoal P w fa a s₁ := by
  have main : ∀ H : Hp, Only H → SqL K H a (ns.map V.int) → HOk P w H s₁.heap → (∀ b, H b ≠ none → b = a ∧ K.lookup a = none) → LawGoal P w fa a s₁ := by
    intro H hO hS hok only
    -- what is untracked stands in the base
    have up : ∀ {b : Addr} {o : Obj}, s₁.heap.get? b = some o → H b = none → (hidT s₁.heap H).get? b = some o := fun e n => hidT_get e n
    have free : ∀ {b : Addr} {o : Obj} {es : Array DictEntry} {ep : Nat}, s₁.heap.get? b = some o → o.data = .dict es ep → H b = none := by
      intro b o es ep e d
      refine Classical.byContradiction fun nz => ?_
      obtain ⟨rfl, _⟩ := only b nz
      rw [ha] at e
      cases e
      exact nomatch (show Data.seq vs.toArray _ = Data.dict es ep from d)
    have nsUp : ∀ {b : Addr} {m : Str → Option Value}, s₁.heap.Ns b m → (hidT s₁.heap H).Ns b m := fun ⟨o, es, ep, e, d, r⟩ => ⟨o, es, ep, up e (free e d), d, r⟩
    have KB : K.In (hidT s₁.heap H) := fun b o e => up (KX b o e) (Classical.byContradiction fun nz => by
      obtain ⟨rfl, hk⟩ := only b nz
      rw [hk] at e
      cases e)
    have none0 : ∀ b : Addr, b ∉ frs ([] : List Env) := fun b z => absurd (show b ∈ ([] : List Addr) from z) (by simp)
    have E0 : Env0 P w K mg (hidT s₁.heap H) callerA [] s₁ H :=
      ⟨rfl, ⟨KB, nsUp hns, ⟨mb, nsUp hb, hbb⟩, let ⟨mc, h1, h2⟩ := hlim; ⟨mc, nsUp h1, h2⟩⟩, fun b o e => of_hidT e, Nat.le_of_eq (hidT_size _ _), trivial, fun b z => absurd z (none0 b), hok, .of_eq hg⟩
    refine codeAny_mono ((F _ KB (nsUp hns)).run callerA [] s₁ H ⟨[.ref a], []⟩ [.ref a] [.ref a] _ _ rfl hr E0 (hbind s₁ (.ref a)) (.cons rfl .nil) (hsp H hO hS)) fun r s' h => ?_
    match r, h with
    | .error e, h => exact (hCX H e s' h).elim
    | .ok .next, h => exact h.elim
    | .ok .brk, h => exact h.elim
    | .ok .cont, h => exact h.elim
    | .ok (.ret u), ⟨v, H', os, bare, un, hok', rz, q⟩ =>
      cases (show v = .bl true from q)
      cases (show u = Value.bool true from rz)
      refine ⟨rfl, OldK.of_keep fun b o e => ?_, os, bare⟩
      cases hb' : H b with
      | none => exact un.keep b o e hb' (none0 b) (by simp)
      | some y =>
        rcases hO b with z | ⟨ob, ys, z⟩
        · rw [hb'] at z
          cases z
        · have o1 := (hok b _ z).1
          have o2 := (hok' b _ (un.frzs b ob _ z)).1
          rw [e] at o1
          cases o1
          exact o2
  have rv := vals_ints hi
  have hlen := hi.length
  by_cases hk : K.lookup a = none
  · refine main (fun b => if b = a then some (.frz { cls := .type "list", data := .seq vs.toArray } (.lst (ns.map V.int))) else none) (fun b => ?_) (.inl (.inr ⟨_, if_pos rfl⟩)) (fun b u z => ?_) (fun b z => ?_)
    · by_cases e : b = a
      · exact .inr ⟨_, _, if_pos e⟩
      · exact .inl (if_neg e)
    · by_cases e : b = a
      · subst e
        cases (if_pos rfl).symm.trans z
        exact ⟨ha, by rw [List.length_map]; exact hl, vs, _, rv, ha⟩
      · cases (if_neg e).symm.trans z
    · by_cases e : b = a
      · exact ⟨e, hk⟩
      · exact absurd (if_neg e) z
  · cases ho : K.lookup a with
    | none => exact absurd ho hk
    | some o =>
      have e := KX a o ho
      rw [ha] at e
      cases e
      exact main (fun _ => none) (fun _ => .inl rfl) (.inr ⟨_, vs.toArray, _, ho, rfl, rfl, rfl, by rw [List.size_toArray, hlen]; exact hl, by simpa using rv⟩) (fun b u z => by cases z) (fun b z => absurd rfl z)
end
/-- a law: F gives the written part, the function object, the promise over every base -/
theorem walk_ofG {l : PySem.W.OpenLaw} {n k : Nat} {q : Program} {loose : List Str} {XP : (Str → Option Value) → Heap → Prop} {YP : World → Heap → Prop} {d : DefRec} {CX : World → CXT} {x : Str}
    (hn : l.most = some n) (hn2 : n ≤ sizeLine) (hdf : d.params.defaults = []) (hr : Room k callerA)
    (F : ∀ (w : World) (mg : Str → Option Value) (fa : Addr) (h : Heap), YP w h → h.Ns mainGlobals mg → mg d.name = some (.ref fa) →
      ∃ (K : PySem.W.Frag) (fd : FuncData) (sp : Sp), K.In h ∧ (∀ (s : Shared) (u : Value), BindsTo s fd ⟨[u], []⟩ [(x, u)]) ∧
        (∀ (H : Hp) (a : Addr) (ns : List Int), ns.length ≤ n → Only H → SqL K H a (ns.map V.int) → sp [.ref a] H (fun v _ => v = .bl true) fun _ _ _ => False) ∧
        ∀ base : Heap, K.In base → base.Ns mainGlobals mg → FnG l.prog w K mg base (CX w) k fa fd [x] sp)
    (hCX : ∀ (w : World) (H : Hp) (s : Shared) (e : Value) (s' : Shared), CX w [] H s (fun _ _ _ => False) e s' → False) :
    PySem.W.WalkO q loose XP YP l.row.toRowW d [] (fun f vs => PySem.call f vs) := by
  refine Att.attach_call hn hdf fun w s₀ s₁ mg mb fa o pm cd doc a vs ns G Y ho hd hcd hmg hobj hints hlen hg => ?_
  obtain ⟨K, fd, sp, KX, h1, h2, h3⟩ := F w mg fa _ Y G.T.g hmg
  exact law_callG KX G.T.g G.T.b G.T.builtins G.T.nolimit hg hobj hints (Nat.le_trans hlen hn2) hr h3 h1 (fun H hO hS => h2 H a ns hlen hO hS) fun H e s' => hCX w H s₁ e s'
end L2
namespace L2
open PySem PySem.Spec PyProof.Rows
/-! ### written data: a display as one step -/
/-- what stands in H' and did not in H -/
def newOf (H H' : Hp) : Hp := fun b => if H b = none then H' b else none
theorem newOf_some {H H' : Hp} {b : Addr} {o : HO} (h : newOf H H' b = some o) : H b = none ∧ H' b = some o := by
  unfold newOf at h
  by_cases e : H b = none
  · rw [if_pos e] at h
    exact ⟨e, h⟩
  · rw [if_neg e] at h
    cases h
theorem newOf_of {H H' : Hp} {b : Addr} {o : HO} (h1 : H b = none) (h2 : H' b = some o) : newOf H H' b = some o := by
  unfold newOf
  rw [if_pos h1]
  exact h2
theorem newOf_right {H H1 H2 : Hp} (s : Same H1 H2) : Same (newOf H H1) (newOf H H2) := fun b o e => by
  obtain ⟨a, c⟩ := newOf_some e
  exact newOf_of a (s b o c)
theorem newOf_left {H H1 H2 : Hp} (s : Same H H1) : Same (newOf H1 H2) (newOf H H2) := fun b o e => by
  obtain ⟨a, c⟩ := newOf_some e
  exact newOf_of (s.free a) c
theorem newOf_in {H H' : Hp} : Same (newOf H H') H' := fun b o e => (newOf_some e).2
/-- a heap that knows nothing of p -/
def hid (p : Addr) (H : Hp) : Hp := fun b => if b = p then none else H b
theorem newOf_hid {H H' : Hp} {p : Addr} {o : HO} (h : H p = some o) : Same (newOf H H') (hid p H') := fun b u e => by
  obtain ⟨a, c⟩ := newOf_some e
  unfold hid
  rw [if_neg (fun z => by rw [z, h] at a; cases a)]
  exact c
theorem hid_p {p : Addr} {H : Hp} : hid p H p = none := if_pos rfl
theorem hid_in {p : Addr} {H : Hp} : Same (hid p H) H := fun b o e => by
  unfold hid at e
  by_cases z : b = p
  · rw [if_pos z] at e
    cases e
  · rw [if_neg z] at e
    exact e
/-- what H₀ does not know may change -/
theorem Same.mut {H₀ H : Hp} {p : Addr} {o : HO} (s : Same H₀ H) (h : H₀ p = none) : Same H₀ (upd H p o) := fun b u e => by
  rw [upd_ne (ne_of_none e h)]
  exact s b u e
theorem Same.new' {H : Hp} {p : Addr} {o : HO} (h : H p = none) : Same H (upd H p o) := (Same.refl H).mut h
def tLit (K : PySem.W.Frag) (d : PyData) : TE := fun _ H Q => ∀ v H', Same H H' → Dq K (newOf H H') v d → Q v H'
def tLitA (K : PySem.W.Frag) (ds : List PyData) : TA := fun _ H Q => ∀ vs H', Same H H' → DqA K (newOf H H') vs ds → Q vs H'
/-- a list whose place is told: it may be changed -/
def tLitL (K : PySem.W.Frag) (ds : List PyData) : TE := fun _ H Q => ∀ r vs H', H r = none → Same H H' → Same H (upd H' r (.lst vs)) → H' r = none → DqA K (newOf H H') vs ds → Q (.ref r) (upd H' r (.lst vs))
section
variable {X : Cx} {pos : Pos}
theorem PE.imp {e : Expr} {t t' : TE} (h : PE X e t) (f : ∀ σ H Q, t' σ H Q → t σ H Q) : PE X e t' := ⟨fun pins s σ H Q I q => h.run pins s σ H Q I (f σ H Q q)⟩
theorem PA.imp {es : List Expr} {t t' : TA} (h : PA X es t) (f : ∀ σ H Q, t' σ H Q → t σ H Q) : PA X es t' := ⟨fun p pins s σ H Q I q => h.run p pins s σ H Q I (f σ H Q q)⟩
theorem pl_int {i j} : PE X (.Constant (.int i) j pos) (tLit X.K (.int i)) := pe_int.imp fun _ H Q q => q _ H (Same.refl H) (.int i)
theorem pl_neg {i j} {p : Pos} : PE X (.UnaryOp .USub (.Constant (.int i) j p) pos) (tLit X.K (.int (-i))) := (pe_un un_neg pe_int).imp fun _ H Q q => ⟨i, rfl, q _ H (Same.refl H) (.int (-i))⟩
theorem pl_bl {b j} : PE X (.Constant (.bool b) j pos) (tLit X.K (.bool b)) := pe_bl.imp fun _ H Q q => q _ H (Same.refl H) (.bl b)
theorem pl_non {j} : PE X (.Constant .none j pos) (tLit X.K .none) := pe_non.imp fun _ H Q q => q _ H (Same.refl H) .non
theorem pl_str {x j} (h : x.length ≤ sizeLine := by decide) : PE X (.Constant (.str x) j pos) (tLit X.K (.str x)) := pe_str.imp fun _ H Q q => q _ H (Same.refl H) (.str x h)
theorem pla_nil : PA X [] (tLitA X.K []) := pa_nil.imp fun _ H Q q => q _ H (Same.refl H) .nil
theorem pla_cons {e : Expr} {es : List Expr} {d : PyData} {ds : List PyData} (h : PE X e (tLit X.K d)) (r : PA X es (tLitA X.K ds)) (he : starEach (e :: es) X.env = (false, eval e X.env) :: starEach es X.env := by rfl) : PA X (e :: es) (tLitA X.K (d :: ds)) :=
  (pa_cons h r he).imp fun σ H Q q v H1 s1 hd vs H2 s2 hds => q _ H2 (s1.trans s2) (.cons (hd.up (newOf_right s2)) (hds.up (newOf_left s1)))
theorem pl_tup {es : List Expr} {k : Nat} {ds : List PyData} (h : PA X es (tLitA X.K ds)) (hz : ds.length ≤ sizeLine := by decide) : PE X (.Tuple es k pos) (tLit X.K (.tuple ds)) :=
  (pe_tup h).imp fun σ H Q q vs H1 s1 hds => ⟨by rw [hds.len]; exact hz, fun p hp => q _ _ (s1.trans (Same.new' hp)) (.tup (SqT.of (newOf_of (s1.free hp) upd_same)) (hds.up (newOf_right (Same.new' hp))))⟩
theorem pl_lst {es : List Expr} {ds : List PyData} (h : PA X es (tLitA X.K ds)) (hz : ds.length ≤ sizeLine := by decide) : PE X (.List es pos) (tLit X.K (.list ds)) :=
  (pe_lst h).imp fun σ H Q q vs H1 s1 hds => ⟨by rw [hds.len]; exact hz, fun p hp => q _ _ (s1.trans (Same.new' hp)) (.lst (SqL.of (newOf_of (s1.free hp) upd_same)) (hds.up (newOf_right (Same.new' hp))))⟩
theorem pl_lstL {es : List Expr} {ds : List PyData} (h : PA X es (tLitA X.K ds)) (hz : ds.length ≤ sizeLine := by decide) : PE X (.List es pos) (tLitL X.K ds) :=
  (pe_lst h).imp fun σ H Q q vs H1 s1 hds => ⟨by rw [hds.len]; exact hz, fun p hp => q p vs H1 (s1.free hp) s1 (s1.trans (Same.new' hp)) hp hds⟩
theorem pl_dct : PE X (.Dict [] [] pos) (tLit X.K (.dict [])) := pe_dnewK.imp fun σ H Q q d hd => q _ _ (Same.new' hd) (.dct (newOf_of hd upd_same))
end
end L2
namespace PySem
namespace MEX
open PySem.W PySem.Calls PyProof.Rows PySem.HandSPX
/-! ### own errors straight over a built-in one, made with keywords, too -/
structure BaseE (B newId initId : String) (bm : List Value) : Prop where
  F : ExcBaseFacts B newId initId bm
  KF : KxsFacts B initId
  pass : ∀ self : Value, refuseLoop self "__setattr__" bm = pure ()
  ob : bm.contains (.type "object") = true
abbrev bmV : List Value := [.type "ValueError", .type "Exception", .type "BaseException", .type "object"]
abbrev bmL : List Value := [.type "LookupError", .type "Exception", .type "BaseException", .type "object"]
abbrev bmO : List Value := [.type "OverflowError", .type "ArithmeticError", .type "Exception", .type "BaseException", .type "object"]
abbrev bmR : List Value := [.type "RuntimeError", .type "Exception", .type "BaseException", .type "object"]
theorem baseV : BaseE "ValueError" "ValueError.__new__" "ValueError.__init__" bmV := ⟨F.excBase_ValueError, kxs_ValueError, F.store_ValueError.passes, by decide +kernel⟩
theorem baseL : BaseE "LookupError" "LookupError.__new__" "LookupError.__init__" bmL := ⟨F.excBase_LookupError, kxs_LookupError, F.store_LookupError.passes, by decide +kernel⟩
theorem baseO : BaseE "OverflowError" "OverflowError.__new__" "OverflowError.__init__" bmO := ⟨F.excBase_OverflowError, kxs_OverflowError, F.store_OverflowError.passes, by decide +kernel⟩
theorem baseR : BaseE "RuntimeError" "RuntimeError.__new__" "RuntimeError.__init__" bmR := ⟨F.excBase_RuntimeError, kxs_RuntimeError, F.store_RuntimeError.passes, by decide +kernel⟩
section
variable {M : Model} {A : Around} {E : Value → Shared → Prop} {h : Heap} {g : Array GenState} {d : Drawn} {t : Nat} {os : OsState}
variable {nm q : Str} {C N : Addr} {bs bm : List Value} {hdct : Bool} {sn : List Str} {sub : List Value} {ab : Bool} {col : Option Bool} {dd : Option Addr} {k0 k1 k2 k3 k5 : Option Value} {B newId initId : String}
theorem check_new_kw (F : ExcBaseFacts B newId initId bm) {rest : List Value} {kw : List (Str × Value)} {Q : Unit → Shared → Prop}
    (hC : h.get? C = some (excClassObj nm q C N bs bm hdct sn sub ab col dd k0 k1 k2 k3 k5 newId)) (hq : Q () ⟨h, g, d, t, os⟩) : wpAny M A (checkBuiltinCall newId ⟨.ref C :: rest, kw⟩) Q E ⟨h, g, d, t, os⟩ := by
  have hcont : (Value.ref C :: bm).contains (.type B) = true := by rw [List.contains_cons, F.hasB, Bool.or_true]
  have hstar := F.noStar
  simp only [checkBuiltinCall, F.newKind, F.newSplit, F.newRow]
  repeat (first | refine wpAny_loadPart_at hC ?_ | (refine wpAny_isSubtype_exc hC ?_; rw [hcont]) | refine wpAny_staticBase_exc hC ?_ | refine wpAny_madeBy_exc hC ?_ | simp only [bne_self_eq_false, Bool.false_eq_true, if_false] | wp_step)
  exact hq
theorem check_type_kw {rest : List Value} {kw : List (Str × Value)} {Q : Unit → Shared → Prop} (hC : h.get? C = some (excClassObj nm q C N bs bm hdct sn sub ab col dd k0 k1 k2 k3 k5 newId))
    (hq : Q () ⟨h, g, d, t, os⟩) : wpAny M A (checkBuiltinCall "type.__call__" ⟨.ref C :: rest, kw⟩) Q E ⟨h, g, d, t, os⟩ := by
  have f3 := tc_sub
  have hT : (⟨h, g, d, t, os⟩ : Shared).TypeIs (.ref C) "type" := ⟨_, hC, rfl⟩
  simp only [checkBuiltinCall, tc_kind, tc_split]
  repeat (any_goals (first | assumption | with_reducible refine wpAny_loadPart_at hC ?_ | with_reducible refine wpAny_onRaise ?_ | with_reducible refine wpAny_map ?_ | wp_step))
end
section
variable {prog : Program} {w : World} {A : Around} {E : Value → Shared → Prop} {R : Result → Shared → Prop} {h : Heap} {g : Array GenState} {d : Drawn} {t : Nat} {os : OsState}
variable {nm q : Str} {C N : Addr} {bs bm : List Value} {hdct : Bool} {sn : List Str} {sub : List Value} {ab : Bool} {col : Option Bool} {dd : Option Addr} {k0 k1 k2 k3 k5 : Option Value} {B newId initId : String}
theorem new_kw (F : ExcBaseFacts B newId initId bm) {rest : List Value} {kw : List (Str × Value)}
    (hC : h.get? C = some (excClassObj nm q C N bs bm hdct sn sub ab col dd k0 k1 k2 k3 k5 newId))
    (hq : R (.ok (.ret (.ref (h.objs.size + 1)))) ⟨(h.push { cls := .type "tuple", data := .seq rest.toArray }).push
      { cls := .ref C, data := .fields #[.ref h.objs.size, .none, .none, .none, .bool false, .none] }, g, d, t, os⟩) (hrest : rest.length ≤ sizeLine) :
    codeAny (model prog w) A (.builtin newId ⟨.ref C :: rest, kw⟩) R ⟨h, g, d, t, os⟩ := by
  have hends := F.ends
  have hcB : (Value.ref C :: bm).contains (.type B) = true := by rw [List.contains_cons, F.hasB, Bool.or_true]
  have hcA : (Value.ref C :: bm).contains (.type "AttributeError") = false := by rw [List.contains_cons, F.noAttr]; rfl
  have hcN : (Value.ref C :: bm).contains (.type "NameError") = false := by rw [List.contains_cons, F.noName]; rfl
  refine codeAny_builtinAt F.entry ?_
  unfold Builtin.«BaseException.__new__»
  refine wpAt_bind ?_
  show wpAt _ _ _ (stack >>= _) _ _ _
  refine wpAt_bind (wpAt_stack fun p below => wpAt_of_wpAny ?_)
  wp_walk
  refine wpAt_of_wpAny ?_
  rw [F.owner]
  repeat (first | with_reducible refine wpAny_madeHere_exc F.canon hC ?_ | with_reducible refine wpAny_loadPart_at hC ?_ | (with_reducible refine wpAny_isSubtype_exc hC ?_; first | rw [hcB] | rw [hcA] | rw [hcN]) | wp_step)
  show R _ _
  rw [Heap.size_push]
  exact hq
theorem type_call_kw (F : ExcBaseFacts B newId initId bm) {rest : List Value} {kw : List (Str × Value)} {fI : Addr} {Q : Fin → Shared → Prop}
    (hC : h.get? C = some (excClassObj nm q C N bs bm hdct sn sub ab col dd k0 k1 k2 k3 k5 newId))
    (hi : W.Looks (model prog w) h (typeLookup (.ref C) "__init__") (some (.ref fI))) (hb : ∀ self, W.Looks (model prog w) h (bindSpecial (.ref fI) self) (.ref fI, [self])) (hrest : rest.length ≤ sizeLine)
    (hq : codeAny (model prog w) A (.call (.ref fI) ⟨.ref (h.objs.size + 1) :: rest, kw⟩)
      (fun r s' => match r with | .ok (.ret v) => v = .none ∧ Q (.done (.ret (.ref (h.objs.size + 1)))) s' | .ok _ => False | .error e => E e s')
      ⟨(h.push (W.kdv_tup rest)).push (excO C h.objs.size), g, d, t, os⟩) :
    wpAny (model prog w) A (Builtin.«type.__call__» ⟨.ref C :: rest, kw⟩) Q E ⟨h, g, d, t, os⟩ := by
  repeat (first | with_reducible refine wpAny_loadPart_at hC ?_ | with_reducible refine wpAny_madeBy_exc hC ?_ | wp_step)
  refine codeAny_call_builtin_code (Code.quiet_builtin _ F.quiet) (check_new_kw F hC ?_)
  refine new_kw F hC ?_ hrest
  show wpAny _ _ _ _ _ _
  have k : ∀ b o, h.get? b = some o → ((h.push (W.kdv_tup rest)).push (excO C h.objs.size)).get? b = some o := fun b o e => Heap.get?_push_of_some _ (Heap.get?_push_of_some _ e)
  have hC₁ := k _ _ hC
  have hget : ((h.push (W.kdv_tup rest)).push (excO C h.objs.size)).get? (h.objs.size + 1) = some (excO C h.objs.size) := by heap_get
  have hcC : (Value.ref C :: bm).contains (.ref C) = true := by simp
  have i1 := hi.keeps k
  have b1 := (hb (.ref (h.objs.size + 1))).keeps k
  unfold isInstance
  repeat (first | with_reducible refine wpAny_loadPart_at hget ?_ | (with_reducible refine wpAny_isSubtype_exc hC₁ ?_; rw [hcC]) | wp_step)
  show wpAny _ _ (typeLookup (.ref C) _) _ _ _
  refine i1.at ?_
  refine wpAny_holding (wpAny_bind (b1.at ?_))
  refine wpAny_bind (wpAny_call (codeAny_mono hq fun r s' z => ?_))
  rcases r with e | (v | _ | _ | _) <;> first | exact z | exact z.elim | skip
  obtain ⟨rfl, z⟩ := z
  first
    | exact wpAny_pure (wpAny_pure z)
    | (wp_walk; exact z)
theorem call_kw (F : ExcBaseFacts B newId initId bm) {rest : List Value} {kw : List (Str × Value)} {fI : Addr}
    (hC : h.get? C = some (excClassObj nm q C N bs bm hdct sn sub ab col dd k0 k1 k2 k3 k5 newId))
    (hi : W.Looks (model prog w) h (typeLookup (.ref C) "__init__") (some (.ref fI))) (hb : ∀ self, W.Looks (model prog w) h (bindSpecial (.ref fI) self) (.ref fI, [self])) (hrest : rest.length ≤ sizeLine)
    (hq : codeAny (model prog w) (A.under (.builtin "type.__call__" ⟨.ref C :: rest, kw⟩)) (.call (.ref fI) ⟨.ref (h.objs.size + 1) :: rest, kw⟩) (W.InitBack (h.objs.size + 1) R)
      ⟨(h.push (W.kdv_tup rest)).push (excO C h.objs.size), g, d, t, os⟩) :
    codeAny (model prog w) A (.call (.ref C) ⟨rest, kw⟩) R ⟨h, g, d, t, os⟩ := by
  have f1 := tc_lookup
  have f2 := tc_bind (.ref C)
  have hTy : (⟨h, g, d, t, os⟩ : Shared).TypeIs (.ref C) "type" := ⟨_, hC, rfl⟩
  refine codeAny_of_tree ?_
  show wpAny _ _ (callAny (.ref C) _) _ _ _
  repeat (any_goals (first | assumption | with_reducible refine wpAny_loadPart_at hC ?_ | wp_step))
  refine ⟨rfl, ?_⟩
  refine codeAny_call_builtin_at (Code.quiet_builtin _ (by decide +kernel)) entry_typeCall (check_type_kw hC (type_call_kw F hC hi hb hrest ?_))
  refine codeAny_mono hq fun r s' z => ?_
  rcases r with e | (v | _ | _ | _) <;> exact z
end
/-! ### stores into an error over any of these -/
section
open Builtin Builtin.ObjectAttr
variable {prog : Program} {w : World} {A : Around} {E : Value → Shared → Prop} {R : Result → Shared → Prop} {hp : Heap} {g : Array GenState} {d : Drawn} {t : Nat} {os : OsState}
theorem osa_new {K : W.Frag} {name : Str} {tk : Tok} {v : Value} {x C : Addr} {fv : Array Value} {cd : ClassData}
    (X : K.In hp) (hx : hp.get? x = some { cls := .ref C, data := .fields fv }) (hcd : W.clsIn K C = some cd) (hm : refuseLoop (.ref x) "__setattr__" cd.mro = pure ()) (ne : cd.mro.isEmpty = false) (hob : cd.mro.contains (.type "object") = true) (hh : cd.hasDict = true) (ha : W.findIn K (.ref C) name = some none)
    (hq : ∀ h' tk' dx, (∀ b o, b ≠ x → hp.get? b = some o → h'.get? b = some o) → hp.objs.size ≤ dx → dx ≠ x → h'.get? x = some { cls := .ref C, dict := some dx, data := .fields fv } →
      h'.Ns1 dx (fun y => if y = name then some v else none) → R (.ok (.ret .none)) ⟨h', g, d, tk', os⟩) :
    codeAny (model prog w) A (.call (.builtin "object.__setattr__") ⟨[.ref x, .str name tk, v], []⟩) R ⟨hp, g, d, t, os⟩ := by
  have I : W.InstAt hp x { cls := .ref C, data := .fields fv } C none := ⟨hx, rfl, rfl, trivial⟩
  have SF := F.store_object
  have hxs : x ≠ hp.objs.size := Nat.ne_of_lt (Heap.lt_size hx)
  have sub : W.Looks (model prog w) hp (isInstance (.ref x) (.type "object")) true := I.type.andThen (W.looks_mroIn X (by unfold W.mroIn; rw [hcd, Option.bind_some, if_neg (by rw [ne]; decide), hob]))
  refine codeAny_call_builtin SF.slot.plain SF.entry (@W.check_slot (model prog w) _ _ ⟨hp, g, d, t, os⟩ "object.__setattr__" "object" "__setattr__" (.ref x) [.str name tk, v] [] _ SF.kind SF.split sub (SF.args (.ref x) (.str name tk) v) ?_)
  have hmr : W.Looks (model prog w) hp (mroOf (.ref C)) cd.mro := (W.looks_clsIn X hcd).andThen .now
  have L3 : W.Looks (model prog w) hp (storeTaker? none) none := .now
  have hcls : W.Looks (model prog w) hp (classData C) cd := W.looks_clsIn X hcd
  rw [W.osa_eq, refuse_eq]
  refine wpAny_bind (wpAny_bind (I.type.at (wpAny_bind (hmr.at ?_))))
  rw [hm]
  refine wpAny_pure (wpAny_bind (I.type.at (wpAny_bind ((W.looks_findIn X ha).at (wpAny_bind (L3.at ?_))))))
  show wpAny _ _ (storeInOwnDict (.ref x) (.ref C) (.str name tk) name v false) _ _ _
  obtain ⟨nm, bs, mro, ns, qn, hd, sn, sb, ab, col, del⟩ := cd
  dsimp only at hh
  subst hh
  unfold storeInOwnDict ownDictForStores
  repeat (first | with_reducible refine store_in_new ?_ ?_ | with_reducible refine wpAny_loadPart_at hx ?_ | with_reducible refine hcls.at ?_ | wp_step)
  · exact ⟨_, #[], _, (Heap.get?_update_ne _ _ _ _ hxs.symm).trans (Heap.get?_push_at rfl rfl), rfl, fun e he => absurd he (by simp), fun _ => rfl⟩
  · intro h' tk' hn' hs
    have hx₁ : (hp.push { cls := .type "dict", data := .dict #[] }).get? x = some { cls := .ref C, data := .fields fv } := Heap.get?_push_of_some _ hx
    refine hq h' tk' hp.objs.size (fun b o hb ho => ?_) (Nat.le_refl _) hxs.symm ?_ hn'
    · exact (hs.2 b (Nat.ne_of_lt (Heap.lt_size ho))).trans ((Heap.get?_update_ne _ _ _ _ hb).trans (Heap.get?_push_of_some _ ho))
    · exact (hs.2 x hxs).trans (Heap.get?_update_self _ hx₁ rfl)
theorem osa_oldB {K : W.Frag} {name : Str} {tk : Tok} {v : Value} {x C dx : Addr} {fv : Array Value} {cd : ClassData} {m0 : Str → Option Value} {nl : List Str}
    (X : K.In hp) (hx : hp.get? x = some { cls := .ref C, dict := some dx, data := .fields fv }) (hns : hp.Ns1 dx m0) (hw : Within m0 nl) (hz : nl.length ≤ 1000) (hcd : W.clsIn K C = some cd) (hm : refuseLoop (.ref x) "__setattr__" cd.mro = pure ()) (ne : cd.mro.isEmpty = false) (hob : cd.mro.contains (.type "object") = true) (hh : cd.hasDict = true)
    (ha : W.findIn K (.ref C) name = some none)
    (hq : ∀ h' tk', (∀ b o, b ≠ dx → hp.get? b = some o → h'.get? b = some o) → h'.Ns1 dx (fun y => if y = name then some v else m0 y) → R (.ok (.ret .none)) ⟨h', g, d, tk', os⟩) :
    codeAny (model prog w) A (.call (.builtin "object.__setattr__") ⟨[.ref x, .str name tk, v], []⟩) R ⟨hp, g, d, t, os⟩ := by
  obtain ⟨oD, esD, epD, hoD, hdD, _⟩ := hns.count hw
  have I : W.InstAt hp x { cls := .ref C, dict := some dx, data := .fields fv } C (some oD) := ⟨hx, rfl, rfl, hoD⟩
  have SF := F.store_object
  have sub : W.Looks (model prog w) hp (isInstance (.ref x) (.type "object")) true := I.type.andThen (W.looks_mroIn X (by unfold W.mroIn; rw [hcd, Option.bind_some, if_neg (by rw [ne]; decide), hob]))
  refine codeAny_call_builtin SF.slot.plain SF.entry (@W.check_slot (model prog w) _ _ ⟨hp, g, d, t, os⟩ "object.__setattr__" "object" "__setattr__" (.ref x) [.str name tk, v] [] _ SF.kind SF.split sub (SF.args (.ref x) (.str name tk) v) ?_)
  have hmr : W.Looks (model prog w) hp (mroOf (.ref C)) cd.mro := (W.looks_clsIn X hcd).andThen .now
  have L3 : W.Looks (model prog w) hp (storeTaker? none) none := .now
  have hcls : W.Looks (model prog w) hp (classData C) cd := W.looks_clsIn X hcd
  rw [W.osa_eq, refuse_eq]
  refine wpAny_bind (wpAny_bind (I.type.at (wpAny_bind (hmr.at ?_))))
  rw [hm]
  refine wpAny_pure (wpAny_bind (I.type.at (wpAny_bind ((W.looks_findIn X ha).at (wpAny_bind (L3.at ?_))))))
  show wpAny _ _ (storeInOwnDict (.ref x) (.ref C) (.str name tk) name v false) _ _ _
  obtain ⟨nm, bs, mro, ns, qn, hd, sn, sb, ab, col, del⟩ := cd
  dsimp only at hh
  subst hh
  unfold storeInOwnDict ownDictForStores
  repeat (first | with_reducible refine PySem.OEX.store_in_old hns hw hz ?_ | with_reducible refine wpAny_loadPart_at hx ?_ | with_reducible refine hcls.at ?_ | wp_step)
  intro h' tk' hn' hs
  exact hq h' tk' (fun b o hb ho => (hs.2 b hb).trans ho) hn'
end
end MEX
end PySem
namespace PySem
namespace MEX
open PySem.W PySem.Calls PyProof.Rows PySem.HandSPX
/-- what the written part says of the class at C, straight over B -/
structure ECls (prog : Program) (K : Frag) (mg : Str → Option Value) (nm : Str) (C fI : Addr) (B newId initId : String) (bm : List Value) : Prop where
  base : BaseE B newId initId bm
  gC : mg nm = some (.ref C)
  cls : ∃ nm q N bs sn sub ab col dd k0 k1 k2 k3 k5, K.lookup C = some (excClassObj nm q C N bs bm true sn sub ab col dd k0 k1 k2 k3 k5 newId)
  sa : findIn K (.ref C) "__setattr__" = some (some (.builtin "object.__setattr__"))
  ga : findIn K (.ref C) "__getattribute__" = some (some (.builtin "BaseException.__getattribute__"))
  gg : findIn K (.ref C) "__getattr__" = some none
  iC : findIn K (.ref C) "__init__" = some (some (.ref fI))
  tC : typeIn K (.ref fI) = some (.type "function")
  kC : keepIn K (.ref C) = true
  exC : subIn K (.ref C) (.type "BaseException") = some true
  beC : subIn K (.ref C) (.type B) = some true
  hdC : hasDictIn K C = true
  mC : mroIn K C (.ref C) = some true
  su : ks_superIn K C C "__init__" = some (some (.builtin initId))
  tp : nsIn K cStatics "thirdparty.any" = some none
  noS : mg "super" = none
  top : (prog.main.scope.names.lookup ("super" : Str)).isSome = false
  cl1 : findIn K (.ref C) "__class__" = some (some (.builtin "object.__class__"))
  cl2 : specialIn K (.builtin "object.__class__") "__get__" = some (some (.builtin "getset_descriptor.__get__"))
  cl3 : takesIn K (.builtin "object.__class__") = some true
  cl4 : mroIn K C (.type "object") = some true
/-- what __init__ leaves of a fresh error at x -/
structure InitN (fs : List (Str × Value)) (h h' : Heap) (x C t1 : Addr) (d : Option Addr) : Prop where
  keep : ∀ b o, b ≠ x → h.get? b = some o → h'.get? b = some o
  obj : h'.get? x = some { cls := .ref C, dict := d, data := .fields #[.ref t1, .none, .none, .none, .bool false, .none] }
  dict : match d with
    | none => fs = []
    | some dx => h.objs.size ≤ dx ∧ dx ≠ x ∧ h'.Ns1 dx (fun y => fs.lookup y)
/-- a made error -/
structure MadeN (fs : List (Str × Value)) (h h' : Heap) (e C : Addr) (d : Option Addr) : Prop where
  keep : ∀ b o, h.get? b = some o → h'.get? b = some o
  new : h.objs.size ≤ e
  obj : ∃ t1, h'.get? e = some { cls := .ref C, dict := d, data := .fields #[.ref t1, .none, .none, .none, .bool false, .none] }
  dict : match d with
    | none => fs = []
    | some dx => h.objs.size ≤ dx ∧ dx ≠ e ∧ h'.Ns1 dx (fun y => fs.lookup y)
theorem lk1 (f : Str) (v : Value) : (fun y => if y = f then some v else none) = (fun y => List.lookup y [(f, v)]) := by
  funext y
  by_cases h : y = f
  · subst h; simp [List.lookup]
  · have q : (y == f) = false := by simpa using h
    simp [List.lookup, q, h]
theorem lk2 (f g : Str) (v u : Value) : (fun y => if y = g then some u else List.lookup y [(f, v)]) = (fun y => List.lookup y [(g, u), (f, v)]) := by
  funext y
  by_cases h : y = g
  · subst h; simp [List.lookup]
  · have q : (y == g) = false := by simpa using h
    simp [List.lookup, q, h]
def iA0 (p0 : Pos) : Arguments := { posonlyargs := [], args := [{ arg := "self", annotation := none, pos := p0 }], vararg := none, kwonlyargs := [], kw_defaults := [], kwarg := none, defaults := [] }
def iB0 (q1 q2 q3 q5 q6 : Pos) : List Stmt := [.Expr (.Call (.Attribute (.Call (.Name "super" q1) [] [] q2) "__init__" q3) [] [] q5) q6]
def iS0 : Scope := { kind := .function, names := [(PySem.Str.ofString "self", .local), (PySem.Str.ofString "__class__", .free), (PySem.Str.ofString "super", .globalImplicit)], isGenerator := false, isCoroutine := false, more := [] }
structure FOk0 : Prop where
  lc : iS0.names.lookup ("__class__" : Str) = some .free
  ls : iS0.names.lookup ("super" : Str) = some .globalImplicit
  bp : ∀ (qual : Str) (p0 : Pos) (body : List Stmt) (doc pm : Value) (an : Option Addr) (cd ct : Value) (cc : Addr) (x : Value), bindArgs (ksFn "__init__" qual (iA0 p0) body iS0 .none .none doc pm an cd ct cc) ⟨[x], []⟩ = pure ([(("self" : Str), x)] : List (Str × Value))
structure EFn0 (prog : Program) (K : Frag) (C fI : Addr) : Prop where
  fok : FOk0
  fn : ∃ (qual : Str) (oc : Value) (od : Option Addr) (doc pm : Value) (an : Option Addr) (cda : Addr) (ct : Value) (cc : Addr) (osl : Array (Option Value)) (p0 q1 q2 q3 q5 q6 : Pos),
    K.lookup fI = some ⟨oc, od, .func (ksFn "__init__" qual (iA0 p0) (iB0 q1 q2 q3 q5 q6) iS0 .none .none doc pm an (.ref cda) ct cc), osl⟩ ∧ codeIn K (.ref cda) qual = true ∧
    (∃ ccl cdd vs ccs file tf, K.lookup cda = some ⟨ccl, cdd, .fields vs, ccs⟩ ∧ vs[2]? = some (.str file tf) ∧ ((prog.main.file : Str) == file) = true) ∧
    (∃ cl cld csl, K.lookup cc = some ⟨cl, cld, .cell (some (.ref C)), csl⟩) ∧ (q3.endLine == q5.line) = true
section
variable {prog : Program} {w : World} {A : Around} {E : Value → Shared → Prop} {R : Result → Shared → Prop} {s : Shared} {K : Frag} {mg : Str → Option Value} {nm : Str} {C fI : Addr} {B newId initId : String} {bm : List Value}
theorem sup_init0 (T : ECls prog K mg nm C fI B newId initId bm) (G : EFn0 prog K C fI ) {x t0 : Addr} {args : Args} (hbd : ∀ (qual : Str) (p0 : Pos) (body : List Stmt) (doc pm : Value) (an : Option Addr) (cd ct : Value) (cc : Addr), bindArgs (ksFn "__init__" qual (iA0 p0) body iS0 .none .none doc pm an cd ct cc) args = pure ([(("self" : Str), Value.ref x)] : List (Str × Value)))
    (X : K.In s.heap) (hlim : s.heap.NoLimit) (hx : s.heap.get? x = some (excO C t0)) (hnx : K.lookup x = none) (hroom : A.depth < recursionLimit)
    (hG : s.heap.Ns mainGlobals mg) (hB : ∃ mb, s.heap.Ns builtinsNs mb ∧ ∀ x : Str, x ≠ "__name__" → mb x = bootBuiltins x)
    (hq : ∀ h' tk d t1, InitN [] s.heap h' x C t1 d → R (.ok (.ret .none)) { s with heap := h', toks := tk }) :
    codeAny (model prog w) A (.call (.ref fI) args) R s := by
  obtain ⟨qual, oc, od, doc, pm, an, cda, ct, cc, osl, p0, q1, q2, q3, q5, q6, hl, hcd, ⟨ccl, cdd, vs, ccs, file, tf, hcode, hvs, hfile⟩, ⟨cl, cld, csl, hcell⟩, hpos⟩ := G.fn
  obtain ⟨cnm, q, N, bs, sn, sub, ab, col, dd, k0, k1, k2, k3, k5, hC⟩ := T.cls
  obtain ⟨mb, hBn, hBv⟩ := hB
  have hcl : clsIn K C = some { name := cnm, bases := bs, mro := .ref C :: bm, ns := N, qualname := q, hasDict := true, slotNames := sn, subclasses := sub, abstract := ab, collection := col, hasDel := false } := by unfold clsIn; rw [hC] <;> rfl
  obtain ⟨hp, g, d, tk, os⟩ := s
  refine ks_codeAny_call_defAt (fd := ksFn "__init__" qual (iA0 p0) (iB0 q1 q2 q3 q5 q6) iS0 .none .none doc pm an (.ref cda) ct cc) (body := (iB0 q1 q2 q3 q5 q6)) (binds := [(("self" : Str), Value.ref x)]) hroom (X _ _ hl) rfl hlim (codeRec_of X hcd) rfl (BindsTo.of_eq (hbd _ _ _ _ _ _ _ _ _)) ?hce ?hlo (fun h₁ hns hk₁ => ?_) rfl rfl rfl
  case hce => intro y hy; simp only [iS0, List.mem_cons, List.not_mem_nil, or_false] at hy; rcases hy with rfl | rfl | rfl <;> simp
  case hlo =>
    intro y hy
    simp only [List.mem_cons, List.not_mem_nil, or_false] at hy
    subst hy; rfl
  have X₁ : K.In h₁ := X.keeps hk₁
  have hx₁ := hk₁ _ _ hx
  have mself : (fun y => ([("self", Value.ref x)] : List (Str × Value)).reverse.lookup y) "self" = some (.ref x) := by simp [List.lookup]
  have hns' : Heap.Ns h₁ hp.objs.size (fun y => ([("self", Value.ref x)] : List (Str × Value)).reverse.lookup y) := hns
  have I₁ : InstAt h₁ x (excO C t0) C none := ⟨hx₁, rfl, rfl, trivial⟩
  show _root_.PySem.wpAt _ _ _ (execs (iB0 q1 q2 q3 q5 q6) (ksEnv qual iS0 hp.objs.size fI (.ref cda) cc)) _ _ _
  have hmc : ∀ ov, methodCall (.Call (.Name "super" q1) [] [] q2) "__init__" q3 q5 (ksEnv qual iS0 hp.objs.size fI (.ref cda) cc) ov 0 (backTo q5 (starEach [] (ksEnv qual iS0 hp.objs.size fI (.ref cda) cc))) [] = (do
      let (ff, first) ← holding [ov] (getMethod ov "__init__" (L2.plainOf (.Call (.Name "super" q1) [] [] q2) (ksEnv qual iS0 hp.objs.size fI (.ref cda) cc)))
      callWith q5 ff first (backTo q5 (starEach [] (ksEnv qual iS0 hp.objs.size fI (.ref cda) cc))) []) := fun ov => L2.mcall_line rfl hpos
  refine ks_wpAt_execs_cons (ks_wpAt_Expr_any (ks_wpAt_MethodCall (pl := L2.plainOf (.Call (.Name "super" q1) [] [] q2) (ksEnv qual iS0 hp.objs.size fI (.ref cda) cc)) ?_ ?he))
  case he =>
    show (do
      let ov ← attributeBase (.Call (.Name "super" q1) [] [] q2) "__init__" (ksEnv qual iS0 hp.objs.size fI (.ref cda) cc) (eval (.Call (.Name "super" q1) [] [] q2) (ksEnv qual iS0 hp.objs.size fI (.ref cda) cc))
      standAt q3.atName
      methodCall (.Call (.Name "super" q1) [] [] q2) "__init__" q3 q5 (ksEnv qual iS0 hp.objs.size fI (.ref cda) cc) ov 0 (backTo q5 (starEach [] (ksEnv qual iS0 hp.objs.size fI (.ref cda) cc))) []) = _
    simp only [hmc]
  refine ks_wpAt_super_base (env := ksEnv qual iS0 hp.objs.size fI (.ref cda) cc) (f := fI) (cc := cda) G.fok.ls G.fok.lc (by decide) rfl (X₁ _ _ hl) rfl rfl rfl (X₁ _ _ hcode) rfl hvs hfile T.top ?_
  refine ks_loadName_global rfl G.fok.ls (loadGlobal_builtin (env := ksEnv qual iS0 hp.objs.size fI (.ref cda) cc) (hG.keeps hk₁) T.noS (hBn.keeps hk₁) ((hBv _ (by decide +kernel)).trans (by first | rfl | decide +kernel | kernel_rfl)) ⟨rfl, ?_⟩)
  refine wpAny_loadName_free rfl G.fok.lc rfl ⟨_, X₁ _ _ hcell, rfl⟩ ?_
  refine wpAny_loadName_local rfl rfl hns' mself ?_
  refine ks_wpAny_isType_cls (X₁ _ _ hC) rfl ⟨rfl, ?_⟩
  refine ks_wpAny_call_super (X₁ _ _ hC) rfl hx₁ rfl (fun c e => by cases e) (looks_mroIn X₁ T.mC) (fun h₂ e₂ k₂ => ?_)
  have X₂ : K.In h₂ := X₁.keeps k₂
  have hx₂ := k₂ _ _ hx₁
  have I₂ : InstAt h₂ x (excO C t0) C none := ⟨hx₂, rfl, rfl, trivial⟩
  have hns₂ := hns'.keeps k₂
  have hal : alongIn K "__init__" (((Value.ref C :: bm).dropWhile (· != .ref C)).drop 1) = some (some (.builtin initId)) := by
    have z := T.su
    unfold ks_superIn at z
    rw [hcl] at z
    exact z
  refine kxs_getMethod T.base.KF (so := h₁.objs.size) (D := C) (x := x) (C := C) (l₀ := .ref C :: bm) (K := K) e₂ (looks_opaque X₂ T.tp) (fun A Q E s k q => wpAny_bind ((looks_clsIn X₂ hcl) A _ E s k (wpAny_pure q))) rfl X₂ hal (I₂.type.andThen (looks_subIn X₂ T.beC)) (ks_ne X₂ I₂ hcl) (by decide) ?_
  have k₃ : ∀ b o, h₂.get? b = some o → (h₂.push (kxs_mw initId x)).get? b = some o := fun b o e => Heap.get?_push_of_some _ e
  have hmw : (h₂.push (kxs_mw initId x)).get? h₂.objs.size = some (kxs_mw initId x) := Heap.get?_push_at rfl rfl
  refine kxs_callWith (i := initId) (x := x) rfl (evalArgs_empty ⟨hmw, ?_⟩)
  have FB := T.base.F
  refine wpAny_call (codeAny_of_tree ?_)
  show wpAny _ _ (callAny (.ref h₂.objs.size) ⟨[], []⟩) _ _ _
  simp only [callAny]
  refine wpAny_bind (wpAny_load hmw ?_)
  simp only [kxs_mw, show (Value.type "method-wrapper" == Value.type "method" || Value.type "method-wrapper" == Value.type "builtin_function_or_method" || Value.type "method-wrapper" == Value.type "method-wrapper") = true by decide, if_true]
  refine KFB.if_so (by decide) ?_
  refine wpAny_bind (check_bound_init FB.toExcCallFacts (k₃ _ _ (X₂ _ _ hC)) (k₃ _ _ hx₂) rfl ?_)
  refine wpAny_bind (wpAny_pure (wpAny_pure ?_))
  refine ⟨plainId_quiet FB.init.plain _, codeAny_builtin FB.initEntry ?_⟩
  refine exc_init_tree (cls := .ref C) (t0 := t0) (dv := none) (c2 := .none) (c3 := .none) (b4 := .bool false) (k₃ _ _ hx₂) (by rw [sizeLine_eq]; exact (by decide : 0 ≤ 16777216)) fun h₄ k₄ hx₄ _ => ?_
  have hxL : hp.objs.size ≠ x := Nat.ne_of_gt (Heap.lt_size hx)
  have X₄ : K.In h₄ := fun a o e => k₄ a o (fun z => by rw [z, hnx] at e; cases e) (k₃ a o (X₂ a o e))
  have kp₄ : ∀ b o, b ≠ x → hp.get? b = some o → h₄.get? b = some o := fun b o hb e => k₄ b o hb (k₃ b o (k₂ b o (hk₁ b o e)))
  have hns₄ : Heap.Ns h₄ hp.objs.size (fun y => ([("self", Value.ref x)] : List (Str × Value)).reverse.lookup y) := by
    obtain ⟨oL, es, ep, hL, r⟩ := hns₂.keeps k₃
    exact ⟨oL, es, ep, k₄ _ _ hxL hL, r⟩
  have hle : hp.objs.size ≤ h₄.objs.size := Nat.le_of_lt hns₄.lt
  show _root_.PySem.wpAt _ _ _ (execs _ _) _ _ _
  exact wpAt_of_wpAny (wpAny_execs_nil (hq h₄ _ none _ ⟨kp₄, hx₄, rfl⟩))
theorem made0 (T : ECls prog K mg nm C fI B newId initId bm) (G : EFn0 prog K C fI ) {rest : List Value} {kw : List (Str × Value)} (hbd : ∀ (x : Value) (qual : Str) (p0 : Pos) (body : List Stmt) (doc pm : Value) (an : Option Addr) (cd ct : Value) (cc : Addr), bindArgs (ksFn "__init__" qual (iA0 p0) body iS0 .none .none doc pm an cd ct cc) ⟨x :: rest, kw⟩ = pure ([(("self" : Str), x)] : List (Str × Value)))
    (hz : rest.length ≤ sizeLine) (X : K.In s.heap) (hlim : s.heap.NoLimit) (hroom : A.depth + 1 < recursionLimit)
    (hG : s.heap.Ns mainGlobals mg) (hB : ∃ mb, s.heap.Ns builtinsNs mb ∧ ∀ x : Str, x ≠ "__name__" → mb x = bootBuiltins x)
    (hq : ∀ h' tk e d, MadeN [] s.heap h' e C d → R (.ok (.ret (.ref e))) { s with heap := h', toks := tk }) :
    codeAny (model prog w) A (.call (.ref C) ⟨rest, kw⟩) R s := by
  obtain ⟨cnm, q, N, bs, sn, sub, ab, col, dd, k0, k1, k2, k3, k5, hC⟩ := T.cls
  obtain ⟨hp, g, dr, tk, os⟩ := s
  have k : ∀ b o, hp.get? b = some o → ((hp.push (kdv_tup rest)).push (excO C hp.objs.size)).get? b = some o := fun b o e => Heap.get?_push_of_some _ (Heap.get?_push_of_some _ e)
  have hget : ((hp.push (kdv_tup rest)).push (excO C hp.objs.size)).get? (hp.objs.size + 1) = some (excO C hp.objs.size) := by heap_get
  have hnx : K.lookup (hp.objs.size + 1) = none := by
    cases e : K.lookup (hp.objs.size + 1) with
    | none => rfl
    | some o =>
      have z : hp.get? (hp.objs.size + 1) = some o := X _ _ e
      exact absurd (Nat.lt_of_succ_lt (Heap.lt_size z)) (Nat.lt_irrefl _)
  refine call_kw T.base.F (X _ _ hC) (looks_findIn X T.iC) (fun self => bind_fn X self T.tC) hz ?_
  refine sup_init0 (s := ⟨(hp.push (kdv_tup rest)).push (excO C hp.objs.size), g, dr, tk, os⟩) T G (hbd _) (X.keeps k) (hlim.keeps k) hget hnx hroom (hG.keeps k) (let ⟨mb, b1, b2⟩ := hB; ⟨mb, b1.keeps k, b2⟩) fun h' tk' d t1 ⟨k', hx, hd⟩ => ?_
  have old : ∀ b o, hp.get? b = some o → h'.get? b = some o := fun b o e => k' b o (Nat.ne_of_lt (Nat.lt_succ_of_lt (Heap.lt_size e))) (k b o e)
  refine ⟨rfl, hq h' tk' (hp.objs.size + 1) d ⟨old, Nat.le_succ _, ⟨_, hx⟩, ?_⟩⟩
  cases d with
  | none => exact hd
  | some dx =>
    obtain ⟨dn, dne, hns⟩ := hd
    have z : hp.objs.size + 1 + 1 ≤ dx := by
      first
        | (simpa only [Heap.size_push] using dn)
        | exact dn
        | (have q := dn; rw [Heap.size_push, Heap.size_push] at q; exact q)
    exact ⟨Nat.le_trans (Nat.le_trans (Nat.le_succ _) (Nat.le_succ _)) z, dne, hns⟩
end
def iA1 (f1 : Str) (p0 p1 : Pos) : Arguments := { posonlyargs := [], args := [{ arg := "self", annotation := none, pos := p0 }, { arg := f1, annotation := none, pos := p1 }], vararg := none, kwonlyargs := [], kw_defaults := [], kwarg := none, defaults := [] }
def iB1 (f1 : Str) (q1 q2 q3 q5 q6 a1 b1 c1 d1 e1 : Pos) : List Stmt := [.Expr (.Call (.Attribute (.Call (.Name "super" q1) [] [] q2) "__init__" q3) [.Name f1 a1] [] q5) q6, .Assign [.Attribute (.Name "self" b1) f1 c1] (.Name f1 d1) e1]
def iS1 (f1 : Str) : Scope := { kind := .function, names := [(PySem.Str.ofString "self", .local), (f1, .local), (PySem.Str.ofString "__class__", .free), (PySem.Str.ofString "super", .globalImplicit)], isGenerator := false, isCoroutine := false, more := [] }
structure FOk1 (f1 : Str) : Prop where
  dbg1 : (f1 == ("__debug__" : Str)) = false
  lf1 : (iS1 f1).names.lookup f1 = some .local
  ns1 : (("self" : Str) == f1) = false
  lc : (iS1 f1).names.lookup ("__class__" : Str) = some .free
  ls : (iS1 f1).names.lookup ("super" : Str) = some .globalImplicit
  bp : ∀ (qual : Str) (p0 p1 : Pos) (body : List Stmt) (doc pm : Value) (an : Option Addr) (cd ct : Value) (cc : Addr) (x v1 : Value), bindArgs (ksFn "__init__" qual (iA1 f1 p0 p1) body (iS1 f1) .none .none doc pm an cd ct cc) ⟨[x, v1], []⟩ = pure ([(("self" : Str), x), (f1, v1)] : List (Str × Value))
  bk : ∀ (qual : Str) (p0 p1 : Pos) (body : List Stmt) (doc pm : Value) (an : Option Addr) (cd ct : Value) (cc : Addr) (x v1 : Value), bindArgs (ksFn "__init__" qual (iA1 f1 p0 p1) body (iS1 f1) .none .none doc pm an cd ct cc) ⟨[x], [(f1, v1)]⟩ = pure ([(("self" : Str), x), (f1, v1)] : List (Str × Value))
structure EFn1 (prog : Program) (K : Frag) (C fI : Addr) (f1 : Str) : Prop where
  fok : FOk1 f1
  no1 : findIn K (.ref C) f1 = some none
  fn : ∃ (qual : Str) (oc : Value) (od : Option Addr) (doc pm : Value) (an : Option Addr) (cda : Addr) (ct : Value) (cc : Addr) (osl : Array (Option Value)) (p0 p1 q1 q2 q3 q5 q6 a1 b1 c1 d1 e1 : Pos),
    K.lookup fI = some ⟨oc, od, .func (ksFn "__init__" qual (iA1 f1 p0 p1) (iB1 f1 q1 q2 q3 q5 q6 a1 b1 c1 d1 e1) (iS1 f1) .none .none doc pm an (.ref cda) ct cc), osl⟩ ∧ codeIn K (.ref cda) qual = true ∧
    (∃ ccl cdd vs ccs file tf, K.lookup cda = some ⟨ccl, cdd, .fields vs, ccs⟩ ∧ vs[2]? = some (.str file tf) ∧ ((prog.main.file : Str) == file) = true) ∧
    (∃ cl cld csl, K.lookup cc = some ⟨cl, cld, .cell (some (.ref C)), csl⟩) ∧ (q3.endLine == q5.line) = true
section
variable {prog : Program} {w : World} {A : Around} {E : Value → Shared → Prop} {R : Result → Shared → Prop} {s : Shared} {K : Frag} {mg : Str → Option Value} {nm : Str} {C fI : Addr} {B newId initId : String} {bm : List Value}
theorem sup_init1 (T : ECls prog K mg nm C fI B newId initId bm) {f1 : Str} (G : EFn1 prog K C fI f1) {x t0 : Addr} {v1 : Value} {args : Args} (hbd : ∀ (qual : Str) (p0 p1 : Pos) (body : List Stmt) (doc pm : Value) (an : Option Addr) (cd ct : Value) (cc : Addr), bindArgs (ksFn "__init__" qual (iA1 f1 p0 p1) body (iS1 f1) .none .none doc pm an cd ct cc) args = pure ([(("self" : Str), Value.ref x), (f1, v1)] : List (Str × Value)))
    (X : K.In s.heap) (hlim : s.heap.NoLimit) (hx : s.heap.get? x = some (excO C t0)) (hnx : K.lookup x = none) (hroom : A.depth < recursionLimit)
    (hG : s.heap.Ns mainGlobals mg) (hB : ∃ mb, s.heap.Ns builtinsNs mb ∧ ∀ x : Str, x ≠ "__name__" → mb x = bootBuiltins x)
    (hq : ∀ h' tk d t1, InitN [(f1, v1)] s.heap h' x C t1 d → R (.ok (.ret .none)) { s with heap := h', toks := tk }) :
    codeAny (model prog w) A (.call (.ref fI) args) R s := by
  obtain ⟨qual, oc, od, doc, pm, an, cda, ct, cc, osl, p0, p1, q1, q2, q3, q5, q6, a1, b1, c1, d1, e1, hl, hcd, ⟨ccl, cdd, vs, ccs, file, tf, hcode, hvs, hfile⟩, ⟨cl, cld, csl, hcell⟩, hpos⟩ := G.fn
  obtain ⟨cnm, q, N, bs, sn, sub, ab, col, dd, k0, k1, k2, k3, k5, hC⟩ := T.cls
  obtain ⟨mb, hBn, hBv⟩ := hB
  have hcl : clsIn K C = some { name := cnm, bases := bs, mro := .ref C :: bm, ns := N, qualname := q, hasDict := true, slotNames := sn, subclasses := sub, abstract := ab, collection := col, hasDel := false } := by unfold clsIn; rw [hC] <;> rfl
  obtain ⟨hp, g, d, tk, os⟩ := s
  refine ks_codeAny_call_defAt (fd := ksFn "__init__" qual (iA1 f1 p0 p1) (iB1 f1 q1 q2 q3 q5 q6 a1 b1 c1 d1 e1) (iS1 f1) .none .none doc pm an (.ref cda) ct cc) (body := (iB1 f1 q1 q2 q3 q5 q6 a1 b1 c1 d1 e1)) (binds := [(("self" : Str), Value.ref x), (f1, v1)]) hroom (X _ _ hl) rfl hlim (codeRec_of X hcd) rfl (BindsTo.of_eq (hbd _ _ _ _ _ _ _ _ _ _)) ?hce ?hlo (fun h₁ hns hk₁ => ?_) rfl rfl rfl
  case hce => intro y hy; simp only [iS1, List.mem_cons, List.not_mem_nil, or_false] at hy; rcases hy with rfl | rfl | rfl | rfl <;> simp
  case hlo =>
    intro y hy
    simp only [List.mem_cons, List.not_mem_nil, or_false] at hy
    rcases hy with rfl | rfl
    · rfl
    · exact G.fok.lf1
  have X₁ : K.In h₁ := X.keeps hk₁
  have hx₁ := hk₁ _ _ hx
  have mv1 : (fun y => ([("self", Value.ref x), (f1, v1)] : List (Str × Value)).reverse.lookup y) f1 = some v1 := by simp [List.lookup]
  have mself : (fun y => ([("self", Value.ref x), (f1, v1)] : List (Str × Value)).reverse.lookup y) "self" = some (.ref x) := by simp [List.lookup, G.fok.ns1]
  have hns' : Heap.Ns h₁ hp.objs.size (fun y => ([("self", Value.ref x), (f1, v1)] : List (Str × Value)).reverse.lookup y) := hns
  have I₁ : InstAt h₁ x (excO C t0) C none := ⟨hx₁, rfl, rfl, trivial⟩
  show _root_.PySem.wpAt _ _ _ (execs (iB1 f1 q1 q2 q3 q5 q6 a1 b1 c1 d1 e1) (ksEnv qual (iS1 f1) hp.objs.size fI (.ref cda) cc)) _ _ _
  have hmc : ∀ ov, methodCall (.Call (.Name "super" q1) [] [] q2) "__init__" q3 q5 (ksEnv qual (iS1 f1) hp.objs.size fI (.ref cda) cc) ov 1 (backTo q5 (starEach [.Name f1 a1] (ksEnv qual (iS1 f1) hp.objs.size fI (.ref cda) cc))) [] = (do
      let (ff, first) ← holding [ov] (getMethod ov "__init__" (L2.plainOf (.Call (.Name "super" q1) [] [] q2) (ksEnv qual (iS1 f1) hp.objs.size fI (.ref cda) cc)))
      callWith q5 ff first (backTo q5 (starEach [.Name f1 a1] (ksEnv qual (iS1 f1) hp.objs.size fI (.ref cda) cc))) []) := fun ov => L2.mcall_line rfl hpos
  refine ks_wpAt_execs_cons (ks_wpAt_Expr_any (ks_wpAt_MethodCall (pl := L2.plainOf (.Call (.Name "super" q1) [] [] q2) (ksEnv qual (iS1 f1) hp.objs.size fI (.ref cda) cc)) ?_ ?he))
  case he =>
    show (do
      let ov ← attributeBase (.Call (.Name "super" q1) [] [] q2) "__init__" (ksEnv qual (iS1 f1) hp.objs.size fI (.ref cda) cc) (eval (.Call (.Name "super" q1) [] [] q2) (ksEnv qual (iS1 f1) hp.objs.size fI (.ref cda) cc))
      standAt q3.atName
      methodCall (.Call (.Name "super" q1) [] [] q2) "__init__" q3 q5 (ksEnv qual (iS1 f1) hp.objs.size fI (.ref cda) cc) ov 1 (backTo q5 (starEach [.Name f1 a1] (ksEnv qual (iS1 f1) hp.objs.size fI (.ref cda) cc))) []) = _
    simp only [hmc]
  refine ks_wpAt_super_base (env := ksEnv qual (iS1 f1) hp.objs.size fI (.ref cda) cc) (f := fI) (cc := cda) G.fok.ls G.fok.lc (by decide) rfl (X₁ _ _ hl) rfl rfl rfl (X₁ _ _ hcode) rfl hvs hfile T.top ?_
  refine ks_loadName_global rfl G.fok.ls (loadGlobal_builtin (env := ksEnv qual (iS1 f1) hp.objs.size fI (.ref cda) cc) (hG.keeps hk₁) T.noS (hBn.keeps hk₁) ((hBv _ (by decide +kernel)).trans (by first | rfl | decide +kernel | kernel_rfl)) ⟨rfl, ?_⟩)
  refine wpAny_loadName_free rfl G.fok.lc rfl ⟨_, X₁ _ _ hcell, rfl⟩ ?_
  refine wpAny_loadName_local rfl rfl hns' mself ?_
  refine ks_wpAny_isType_cls (X₁ _ _ hC) rfl ⟨rfl, ?_⟩
  refine ks_wpAny_call_super (X₁ _ _ hC) rfl hx₁ rfl (fun c e => by cases e) (looks_mroIn X₁ T.mC) (fun h₂ e₂ k₂ => ?_)
  have X₂ : K.In h₂ := X₁.keeps k₂
  have hx₂ := k₂ _ _ hx₁
  have I₂ : InstAt h₂ x (excO C t0) C none := ⟨hx₂, rfl, rfl, trivial⟩
  have hns₂ := hns'.keeps k₂
  have hal : alongIn K "__init__" (((Value.ref C :: bm).dropWhile (· != .ref C)).drop 1) = some (some (.builtin initId)) := by
    have z := T.su
    unfold ks_superIn at z
    rw [hcl] at z
    exact z
  refine kxs_getMethod T.base.KF (so := h₁.objs.size) (D := C) (x := x) (C := C) (l₀ := .ref C :: bm) (K := K) e₂ (looks_opaque X₂ T.tp) (fun A Q E s k q => wpAny_bind ((looks_clsIn X₂ hcl) A _ E s k (wpAny_pure q))) rfl X₂ hal (I₂.type.andThen (looks_subIn X₂ T.beC)) (ks_ne X₂ I₂ hcl) (by decide) ?_
  have k₃ : ∀ b o, h₂.get? b = some o → (h₂.push (kxs_mw initId x)).get? b = some o := fun b o e => Heap.get?_push_of_some _ e
  have hmw : (h₂.push (kxs_mw initId x)).get? h₂.objs.size = some (kxs_mw initId x) := Heap.get?_push_at rfl rfl
  refine kxs_callWith (i := initId) (x := x) rfl (evalArgs_plain ?_)
  refine spliced_cons (wpAny_Name (wpAny_loadName_local rfl G.fok.lf1 (hns₂.keeps k₃) mv1 ?_) G.fok.dbg1)
  refine spliced_nil ⟨hmw, ?_⟩
  have FB := T.base.F
  refine wpAny_call (codeAny_of_tree ?_)
  show wpAny _ _ (callAny (.ref h₂.objs.size) ⟨[v1], []⟩) _ _ _
  simp only [callAny]
  refine wpAny_bind (wpAny_load hmw ?_)
  simp only [kxs_mw, show (Value.type "method-wrapper" == Value.type "method" || Value.type "method-wrapper" == Value.type "builtin_function_or_method" || Value.type "method-wrapper" == Value.type "method-wrapper") = true by decide, if_true]
  refine KFB.if_so (by decide) ?_
  refine wpAny_bind (check_bound_init FB.toExcCallFacts (k₃ _ _ (X₂ _ _ hC)) (k₃ _ _ hx₂) rfl ?_)
  refine wpAny_bind (wpAny_pure (wpAny_pure ?_))
  refine ⟨plainId_quiet FB.init.plain _, codeAny_builtin FB.initEntry ?_⟩
  refine exc_init_tree (cls := .ref C) (t0 := t0) (dv := none) (c2 := .none) (c3 := .none) (b4 := .bool false) (k₃ _ _ hx₂) (by rw [sizeLine_eq]; exact (by decide : 1 ≤ 16777216)) fun h₄ k₄ hx₄ _ => ?_
  have hxL : hp.objs.size ≠ x := Nat.ne_of_gt (Heap.lt_size hx)
  have X₄ : K.In h₄ := fun a o e => k₄ a o (fun z => by rw [z, hnx] at e; cases e) (k₃ a o (X₂ a o e))
  have kp₄ : ∀ b o, b ≠ x → hp.get? b = some o → h₄.get? b = some o := fun b o hb e => k₄ b o hb (k₃ b o (k₂ b o (hk₁ b o e)))
  have hns₄ : Heap.Ns h₄ hp.objs.size (fun y => ([("self", Value.ref x), (f1, v1)] : List (Str × Value)).reverse.lookup y) := by
    obtain ⟨oL, es, ep, hL, r⟩ := hns₂.keeps k₃
    exact ⟨oL, es, ep, k₄ _ _ hxL hL, r⟩
  have hle : hp.objs.size ≤ h₄.objs.size := Nat.le_of_lt hns₄.lt
  show _root_.PySem.wpAt _ _ _ (execs _ _) _ _ _
  refine ks_wpAt_execs_cons (ks_wpAt_Assign_Attr (wpAt_of_wpAny ?_))
  refine wpAny_Name (wpAny_loadName_local rfl G.fok.lf1 hns₄ mv1 ?_) G.fok.dbg1
  refine wpAny_Name (wpAny_loadName_local rfl rfl hns₄ mself ?_) (by decide)
  refine set_plain X₄ (od := none) ⟨hx₄, rfl, rfl, trivial⟩ T.sa ?_
  refine osa_new X₄ hx₄ hcl (by rw [refuseLoop_ref]; exact T.base.pass _) rfl (by rw [List.contains_cons, T.base.ob, Bool.or_true]) rfl G.no1 (fun h₅ tk₅ dx k₅ dn dne hx₅ hn₅ => ?_)
  rw [lk1] at hn₅
  show _root_.PySem.wpAt _ _ _ (execs _ _) _ _ _
  exact wpAt_of_wpAny (wpAny_execs_nil (hq h₅ tk₅ (some dx) _ ⟨fun b o hb e => k₅ b o hb (kp₄ b o hb e), hx₅, Nat.le_trans hle dn, dne, hn₅⟩))
theorem made1 (T : ECls prog K mg nm C fI B newId initId bm) {f1 : Str} (G : EFn1 prog K C fI f1) {v1 : Value} {rest : List Value} {kw : List (Str × Value)} (hbd : ∀ (x : Value) (qual : Str) (p0 p1 : Pos) (body : List Stmt) (doc pm : Value) (an : Option Addr) (cd ct : Value) (cc : Addr), bindArgs (ksFn "__init__" qual (iA1 f1 p0 p1) body (iS1 f1) .none .none doc pm an cd ct cc) ⟨x :: rest, kw⟩ = pure ([(("self" : Str), x), (f1, v1)] : List (Str × Value)))
    (hz : rest.length ≤ sizeLine) (X : K.In s.heap) (hlim : s.heap.NoLimit) (hroom : A.depth + 1 < recursionLimit)
    (hG : s.heap.Ns mainGlobals mg) (hB : ∃ mb, s.heap.Ns builtinsNs mb ∧ ∀ x : Str, x ≠ "__name__" → mb x = bootBuiltins x)
    (hq : ∀ h' tk e d, MadeN [(f1, v1)] s.heap h' e C d → R (.ok (.ret (.ref e))) { s with heap := h', toks := tk }) :
    codeAny (model prog w) A (.call (.ref C) ⟨rest, kw⟩) R s := by
  obtain ⟨cnm, q, N, bs, sn, sub, ab, col, dd, k0, k1, k2, k3, k5, hC⟩ := T.cls
  obtain ⟨hp, g, dr, tk, os⟩ := s
  have k : ∀ b o, hp.get? b = some o → ((hp.push (kdv_tup rest)).push (excO C hp.objs.size)).get? b = some o := fun b o e => Heap.get?_push_of_some _ (Heap.get?_push_of_some _ e)
  have hget : ((hp.push (kdv_tup rest)).push (excO C hp.objs.size)).get? (hp.objs.size + 1) = some (excO C hp.objs.size) := by heap_get
  have hnx : K.lookup (hp.objs.size + 1) = none := by
    cases e : K.lookup (hp.objs.size + 1) with
    | none => rfl
    | some o =>
      have z : hp.get? (hp.objs.size + 1) = some o := X _ _ e
      exact absurd (Nat.lt_of_succ_lt (Heap.lt_size z)) (Nat.lt_irrefl _)
  refine call_kw T.base.F (X _ _ hC) (looks_findIn X T.iC) (fun self => bind_fn X self T.tC) hz ?_
  refine sup_init1 (s := ⟨(hp.push (kdv_tup rest)).push (excO C hp.objs.size), g, dr, tk, os⟩) T G (hbd _) (X.keeps k) (hlim.keeps k) hget hnx hroom (hG.keeps k) (let ⟨mb, b1, b2⟩ := hB; ⟨mb, b1.keeps k, b2⟩) fun h' tk' d t1 ⟨k', hx, hd⟩ => ?_
  have old : ∀ b o, hp.get? b = some o → h'.get? b = some o := fun b o e => k' b o (Nat.ne_of_lt (Nat.lt_succ_of_lt (Heap.lt_size e))) (k b o e)
  refine ⟨rfl, hq h' tk' (hp.objs.size + 1) d ⟨old, Nat.le_succ _, ⟨_, hx⟩, ?_⟩⟩
  cases d with
  | none => exact hd
  | some dx =>
    obtain ⟨dn, dne, hns⟩ := hd
    have z : hp.objs.size + 1 + 1 ≤ dx := by
      first
        | (simpa only [Heap.size_push] using dn)
        | exact dn
        | (have q := dn; rw [Heap.size_push, Heap.size_push] at q; exact q)
    exact ⟨Nat.le_trans (Nat.le_trans (Nat.le_succ _) (Nat.le_succ _)) z, dne, hns⟩
end
def iA2 (f1 f2 : Str) (p0 p1 p2 : Pos) : Arguments := { posonlyargs := [], args := [{ arg := "self", annotation := none, pos := p0 }, { arg := f1, annotation := none, pos := p1 }, { arg := f2, annotation := none, pos := p2 }], vararg := none, kwonlyargs := [], kw_defaults := [], kwarg := none, defaults := [] }
def iB2 (f1 f2 : Str) (q1 q2 q3 q5 q6 a1 a2 b1 c1 d1 e1 b2 c2 d2 e2 : Pos) : List Stmt := [.Expr (.Call (.Attribute (.Call (.Name "super" q1) [] [] q2) "__init__" q3) [.Name f1 a1, .Name f2 a2] [] q5) q6, .Assign [.Attribute (.Name "self" b1) f1 c1] (.Name f1 d1) e1, .Assign [.Attribute (.Name "self" b2) f2 c2] (.Name f2 d2) e2]
def iS2 (f1 f2 : Str) : Scope := { kind := .function, names := [(PySem.Str.ofString "self", .local), (f1, .local), (f2, .local), (PySem.Str.ofString "__class__", .free), (PySem.Str.ofString "super", .globalImplicit)], isGenerator := false, isCoroutine := false, more := [] }
structure FOk2 (f1 f2 : Str) : Prop where
  dbg1 : (f1 == ("__debug__" : Str)) = false
  lf1 : (iS2 f1 f2).names.lookup f1 = some .local
  ns1 : (("self" : Str) == f1) = false
  dbg2 : (f2 == ("__debug__" : Str)) = false
  lf2 : (iS2 f1 f2).names.lookup f2 = some .local
  ns2 : (("self" : Str) == f2) = false
  ne : (f1 == f2) = false
  lc : (iS2 f1 f2).names.lookup ("__class__" : Str) = some .free
  ls : (iS2 f1 f2).names.lookup ("super" : Str) = some .globalImplicit
  bp : ∀ (qual : Str) (p0 p1 p2 : Pos) (body : List Stmt) (doc pm : Value) (an : Option Addr) (cd ct : Value) (cc : Addr) (x v1 v2 : Value), bindArgs (ksFn "__init__" qual (iA2 f1 f2 p0 p1 p2) body (iS2 f1 f2) .none .none doc pm an cd ct cc) ⟨[x, v1, v2], []⟩ = pure ([(("self" : Str), x), (f1, v1), (f2, v2)] : List (Str × Value))
  bk : ∀ (qual : Str) (p0 p1 p2 : Pos) (body : List Stmt) (doc pm : Value) (an : Option Addr) (cd ct : Value) (cc : Addr) (x v1 v2 : Value), bindArgs (ksFn "__init__" qual (iA2 f1 f2 p0 p1 p2) body (iS2 f1 f2) .none .none doc pm an cd ct cc) ⟨[x], [(f2, v2), (f1, v1)]⟩ = pure ([(("self" : Str), x), (f1, v1), (f2, v2)] : List (Str × Value))
structure EFn2 (prog : Program) (K : Frag) (C fI : Addr) (f1 f2 : Str) : Prop where
  fok : FOk2 f1 f2
  no1 : findIn K (.ref C) f1 = some none
  no2 : findIn K (.ref C) f2 = some none
  fn : ∃ (qual : Str) (oc : Value) (od : Option Addr) (doc pm : Value) (an : Option Addr) (cda : Addr) (ct : Value) (cc : Addr) (osl : Array (Option Value)) (p0 p1 p2 q1 q2 q3 q5 q6 a1 a2 b1 c1 d1 e1 b2 c2 d2 e2 : Pos),
    K.lookup fI = some ⟨oc, od, .func (ksFn "__init__" qual (iA2 f1 f2 p0 p1 p2) (iB2 f1 f2 q1 q2 q3 q5 q6 a1 a2 b1 c1 d1 e1 b2 c2 d2 e2) (iS2 f1 f2) .none .none doc pm an (.ref cda) ct cc), osl⟩ ∧ codeIn K (.ref cda) qual = true ∧
    (∃ ccl cdd vs ccs file tf, K.lookup cda = some ⟨ccl, cdd, .fields vs, ccs⟩ ∧ vs[2]? = some (.str file tf) ∧ ((prog.main.file : Str) == file) = true) ∧
    (∃ cl cld csl, K.lookup cc = some ⟨cl, cld, .cell (some (.ref C)), csl⟩) ∧ (q3.endLine == q5.line) = true
section
variable {prog : Program} {w : World} {A : Around} {E : Value → Shared → Prop} {R : Result → Shared → Prop} {s : Shared} {K : Frag} {mg : Str → Option Value} {nm : Str} {C fI : Addr} {B newId initId : String} {bm : List Value}
theorem sup_init2 (T : ECls prog K mg nm C fI B newId initId bm) {f1 f2 : Str} (G : EFn2 prog K C fI f1 f2) {x t0 : Addr} {v1 v2 : Value} {args : Args} (hbd : ∀ (qual : Str) (p0 p1 p2 : Pos) (body : List Stmt) (doc pm : Value) (an : Option Addr) (cd ct : Value) (cc : Addr), bindArgs (ksFn "__init__" qual (iA2 f1 f2 p0 p1 p2) body (iS2 f1 f2) .none .none doc pm an cd ct cc) args = pure ([(("self" : Str), Value.ref x), (f1, v1), (f2, v2)] : List (Str × Value)))
    (X : K.In s.heap) (hlim : s.heap.NoLimit) (hx : s.heap.get? x = some (excO C t0)) (hnx : K.lookup x = none) (hroom : A.depth < recursionLimit)
    (hG : s.heap.Ns mainGlobals mg) (hB : ∃ mb, s.heap.Ns builtinsNs mb ∧ ∀ x : Str, x ≠ "__name__" → mb x = bootBuiltins x)
    (hq : ∀ h' tk d t1, InitN [(f2, v2), (f1, v1)] s.heap h' x C t1 d → R (.ok (.ret .none)) { s with heap := h', toks := tk }) :
    codeAny (model prog w) A (.call (.ref fI) args) R s := by
  obtain ⟨qual, oc, od, doc, pm, an, cda, ct, cc, osl, p0, p1, p2, q1, q2, q3, q5, q6, a1, a2, b1, c1, d1, e1, b2, c2, d2, e2, hl, hcd, ⟨ccl, cdd, vs, ccs, file, tf, hcode, hvs, hfile⟩, ⟨cl, cld, csl, hcell⟩, hpos⟩ := G.fn
  obtain ⟨cnm, q, N, bs, sn, sub, ab, col, dd, k0, k1, k2, k3, k5, hC⟩ := T.cls
  obtain ⟨mb, hBn, hBv⟩ := hB
  have hcl : clsIn K C = some { name := cnm, bases := bs, mro := .ref C :: bm, ns := N, qualname := q, hasDict := true, slotNames := sn, subclasses := sub, abstract := ab, collection := col, hasDel := false } := by unfold clsIn; rw [hC] <;> rfl
  obtain ⟨hp, g, d, tk, os⟩ := s
  refine ks_codeAny_call_defAt (fd := ksFn "__init__" qual (iA2 f1 f2 p0 p1 p2) (iB2 f1 f2 q1 q2 q3 q5 q6 a1 a2 b1 c1 d1 e1 b2 c2 d2 e2) (iS2 f1 f2) .none .none doc pm an (.ref cda) ct cc) (body := (iB2 f1 f2 q1 q2 q3 q5 q6 a1 a2 b1 c1 d1 e1 b2 c2 d2 e2)) (binds := [(("self" : Str), Value.ref x), (f1, v1), (f2, v2)]) hroom (X _ _ hl) rfl hlim (codeRec_of X hcd) rfl (BindsTo.of_eq (hbd _ _ _ _ _ _ _ _ _ _ _)) ?hce ?hlo (fun h₁ hns hk₁ => ?_) rfl rfl rfl
  case hce => intro y hy; simp only [iS2, List.mem_cons, List.not_mem_nil, or_false] at hy; rcases hy with rfl | rfl | rfl | rfl | rfl <;> simp
  case hlo =>
    intro y hy
    simp only [List.mem_cons, List.not_mem_nil, or_false] at hy
    rcases hy with rfl | rfl | rfl
    · rfl
    · exact G.fok.lf1
    · exact G.fok.lf2
  have X₁ : K.In h₁ := X.keeps hk₁
  have hx₁ := hk₁ _ _ hx
  have mv2 : (fun y => ([("self", Value.ref x), (f1, v1), (f2, v2)] : List (Str × Value)).reverse.lookup y) f2 = some v2 := by simp [List.lookup]
  have mv1 : (fun y => ([("self", Value.ref x), (f1, v1), (f2, v2)] : List (Str × Value)).reverse.lookup y) f1 = some v1 := by simp [List.lookup, G.fok.ne]
  have mself : (fun y => ([("self", Value.ref x), (f1, v1), (f2, v2)] : List (Str × Value)).reverse.lookup y) "self" = some (.ref x) := by simp [List.lookup, G.fok.ns1, G.fok.ns2]
  have hns' : Heap.Ns h₁ hp.objs.size (fun y => ([("self", Value.ref x), (f1, v1), (f2, v2)] : List (Str × Value)).reverse.lookup y) := hns
  have I₁ : InstAt h₁ x (excO C t0) C none := ⟨hx₁, rfl, rfl, trivial⟩
  show _root_.PySem.wpAt _ _ _ (execs (iB2 f1 f2 q1 q2 q3 q5 q6 a1 a2 b1 c1 d1 e1 b2 c2 d2 e2) (ksEnv qual (iS2 f1 f2) hp.objs.size fI (.ref cda) cc)) _ _ _
  have hmc : ∀ ov, methodCall (.Call (.Name "super" q1) [] [] q2) "__init__" q3 q5 (ksEnv qual (iS2 f1 f2) hp.objs.size fI (.ref cda) cc) ov 2 (backTo q5 (starEach [.Name f1 a1, .Name f2 a2] (ksEnv qual (iS2 f1 f2) hp.objs.size fI (.ref cda) cc))) [] = (do
      let (ff, first) ← holding [ov] (getMethod ov "__init__" (L2.plainOf (.Call (.Name "super" q1) [] [] q2) (ksEnv qual (iS2 f1 f2) hp.objs.size fI (.ref cda) cc)))
      callWith q5 ff first (backTo q5 (starEach [.Name f1 a1, .Name f2 a2] (ksEnv qual (iS2 f1 f2) hp.objs.size fI (.ref cda) cc))) []) := fun ov => L2.mcall_line rfl hpos
  refine ks_wpAt_execs_cons (ks_wpAt_Expr_any (ks_wpAt_MethodCall (pl := L2.plainOf (.Call (.Name "super" q1) [] [] q2) (ksEnv qual (iS2 f1 f2) hp.objs.size fI (.ref cda) cc)) ?_ ?he))
  case he =>
    show (do
      let ov ← attributeBase (.Call (.Name "super" q1) [] [] q2) "__init__" (ksEnv qual (iS2 f1 f2) hp.objs.size fI (.ref cda) cc) (eval (.Call (.Name "super" q1) [] [] q2) (ksEnv qual (iS2 f1 f2) hp.objs.size fI (.ref cda) cc))
      standAt q3.atName
      methodCall (.Call (.Name "super" q1) [] [] q2) "__init__" q3 q5 (ksEnv qual (iS2 f1 f2) hp.objs.size fI (.ref cda) cc) ov 2 (backTo q5 (starEach [.Name f1 a1, .Name f2 a2] (ksEnv qual (iS2 f1 f2) hp.objs.size fI (.ref cda) cc))) []) = _
    simp only [hmc]
  refine ks_wpAt_super_base (env := ksEnv qual (iS2 f1 f2) hp.objs.size fI (.ref cda) cc) (f := fI) (cc := cda) G.fok.ls G.fok.lc (by decide) rfl (X₁ _ _ hl) rfl rfl rfl (X₁ _ _ hcode) rfl hvs hfile T.top ?_
  refine ks_loadName_global rfl G.fok.ls (loadGlobal_builtin (env := ksEnv qual (iS2 f1 f2) hp.objs.size fI (.ref cda) cc) (hG.keeps hk₁) T.noS (hBn.keeps hk₁) ((hBv _ (by decide +kernel)).trans (by first | rfl | decide +kernel | kernel_rfl)) ⟨rfl, ?_⟩)
  refine wpAny_loadName_free rfl G.fok.lc rfl ⟨_, X₁ _ _ hcell, rfl⟩ ?_
  refine wpAny_loadName_local rfl rfl hns' mself ?_
  refine ks_wpAny_isType_cls (X₁ _ _ hC) rfl ⟨rfl, ?_⟩
  refine ks_wpAny_call_super (X₁ _ _ hC) rfl hx₁ rfl (fun c e => by cases e) (looks_mroIn X₁ T.mC) (fun h₂ e₂ k₂ => ?_)
  have X₂ : K.In h₂ := X₁.keeps k₂
  have hx₂ := k₂ _ _ hx₁
  have I₂ : InstAt h₂ x (excO C t0) C none := ⟨hx₂, rfl, rfl, trivial⟩
  have hns₂ := hns'.keeps k₂
  have hal : alongIn K "__init__" (((Value.ref C :: bm).dropWhile (· != .ref C)).drop 1) = some (some (.builtin initId)) := by
    have z := T.su
    unfold ks_superIn at z
    rw [hcl] at z
    exact z
  refine kxs_getMethod T.base.KF (so := h₁.objs.size) (D := C) (x := x) (C := C) (l₀ := .ref C :: bm) (K := K) e₂ (looks_opaque X₂ T.tp) (fun A Q E s k q => wpAny_bind ((looks_clsIn X₂ hcl) A _ E s k (wpAny_pure q))) rfl X₂ hal (I₂.type.andThen (looks_subIn X₂ T.beC)) (ks_ne X₂ I₂ hcl) (by decide) ?_
  have k₃ : ∀ b o, h₂.get? b = some o → (h₂.push (kxs_mw initId x)).get? b = some o := fun b o e => Heap.get?_push_of_some _ e
  have hmw : (h₂.push (kxs_mw initId x)).get? h₂.objs.size = some (kxs_mw initId x) := Heap.get?_push_at rfl rfl
  refine kxs_callWith (i := initId) (x := x) rfl (evalArgs_plain ?_)
  refine spliced_cons (wpAny_Name (wpAny_loadName_local rfl G.fok.lf1 (hns₂.keeps k₃) mv1 ?_) G.fok.dbg1)
  refine spliced_cons (wpAny_Name (wpAny_loadName_local rfl G.fok.lf2 (hns₂.keeps k₃) mv2 ?_) G.fok.dbg2)
  refine spliced_nil ⟨hmw, ?_⟩
  have FB := T.base.F
  refine wpAny_call (codeAny_of_tree ?_)
  show wpAny _ _ (callAny (.ref h₂.objs.size) ⟨[v1, v2], []⟩) _ _ _
  simp only [callAny]
  refine wpAny_bind (wpAny_load hmw ?_)
  simp only [kxs_mw, show (Value.type "method-wrapper" == Value.type "method" || Value.type "method-wrapper" == Value.type "builtin_function_or_method" || Value.type "method-wrapper" == Value.type "method-wrapper") = true by decide, if_true]
  refine KFB.if_so (by decide) ?_
  refine wpAny_bind (check_bound_init FB.toExcCallFacts (k₃ _ _ (X₂ _ _ hC)) (k₃ _ _ hx₂) rfl ?_)
  refine wpAny_bind (wpAny_pure (wpAny_pure ?_))
  refine ⟨plainId_quiet FB.init.plain _, codeAny_builtin FB.initEntry ?_⟩
  refine exc_init_tree (cls := .ref C) (t0 := t0) (dv := none) (c2 := .none) (c3 := .none) (b4 := .bool false) (k₃ _ _ hx₂) (by rw [sizeLine_eq]; exact (by decide : 2 ≤ 16777216)) fun h₄ k₄ hx₄ _ => ?_
  have hxL : hp.objs.size ≠ x := Nat.ne_of_gt (Heap.lt_size hx)
  have X₄ : K.In h₄ := fun a o e => k₄ a o (fun z => by rw [z, hnx] at e; cases e) (k₃ a o (X₂ a o e))
  have kp₄ : ∀ b o, b ≠ x → hp.get? b = some o → h₄.get? b = some o := fun b o hb e => k₄ b o hb (k₃ b o (k₂ b o (hk₁ b o e)))
  have hns₄ : Heap.Ns h₄ hp.objs.size (fun y => ([("self", Value.ref x), (f1, v1), (f2, v2)] : List (Str × Value)).reverse.lookup y) := by
    obtain ⟨oL, es, ep, hL, r⟩ := hns₂.keeps k₃
    exact ⟨oL, es, ep, k₄ _ _ hxL hL, r⟩
  have hle : hp.objs.size ≤ h₄.objs.size := Nat.le_of_lt hns₄.lt
  show _root_.PySem.wpAt _ _ _ (execs _ _) _ _ _
  refine ks_wpAt_execs_cons (ks_wpAt_Assign_Attr (wpAt_of_wpAny ?_))
  refine wpAny_Name (wpAny_loadName_local rfl G.fok.lf1 hns₄ mv1 ?_) G.fok.dbg1
  refine wpAny_Name (wpAny_loadName_local rfl rfl hns₄ mself ?_) (by decide)
  refine set_plain X₄ (od := none) ⟨hx₄, rfl, rfl, trivial⟩ T.sa ?_
  refine osa_new X₄ hx₄ hcl (by rw [refuseLoop_ref]; exact T.base.pass _) rfl (by rw [List.contains_cons, T.base.ob, Bool.or_true]) rfl G.no1 (fun h₅ tk₅ dx k₅ dn dne hx₅ hn₅ => ?_)
  rw [lk1] at hn₅
  show _root_.PySem.wpAt _ _ _ (execs _ _) _ _ _
  have dL : hp.objs.size ≠ dx := Nat.ne_of_lt (Nat.lt_of_lt_of_le hns₄.lt dn)
  have X₅ : K.In h₅ := fun a o e => k₅ a o (fun z => by rw [z, hnx] at e; cases e) (X₄ a o e)
  have hns₅ : Heap.Ns h₅ hp.objs.size (fun y => ([("self", Value.ref x), (f1, v1), (f2, v2)] : List (Str × Value)).reverse.lookup y) := by
    obtain ⟨oL, es, ep, hL, r⟩ := hns₄
    exact ⟨oL, es, ep, k₅ _ _ hxL hL, r⟩
  refine ks_wpAt_execs_cons (ks_wpAt_Assign_Attr (wpAt_of_wpAny ?_))
  refine wpAny_Name (wpAny_loadName_local rfl G.fok.lf2 hns₅ mv2 ?_) G.fok.dbg2
  refine wpAny_Name (wpAny_loadName_local rfl rfl hns₅ mself ?_) (by decide)
  have hw5 : Within (fun y => List.lookup y [(f1, v1)]) [f1] := by
    rw [← lk1]
    exact Within.cons f1 v1 Within.nil
  obtain ⟨oD, _, _, hoD, _, _⟩ := hn₅.count hw5
  refine set_plain X₅ (od := some oD) ⟨hx₅, rfl, rfl, hoD⟩ T.sa ?_
  refine osa_oldB X₅ hx₅ hn₅ hw5 (by show 1 ≤ 1000; decide) hcl (by rw [refuseLoop_ref]; exact T.base.pass _) rfl (by rw [List.contains_cons, T.base.ob, Bool.or_true]) rfl G.no2 (fun h₆ tk₆ k₆ hn₆ => ?_)
  rw [lk2] at hn₆
  show _root_.PySem.wpAt _ _ _ (execs _ _) _ _ _
  exact wpAt_of_wpAny (wpAny_execs_nil (hq h₆ tk₆ (some dx) _ ⟨fun b o hb e => k₆ b o (fun z => Nat.lt_irrefl _ (Nat.lt_of_lt_of_le (z ▸ Heap.lt_size e) (Nat.le_trans hle dn))) (k₅ b o hb (kp₄ b o hb e)), k₆ _ _ (Ne.symm dne) hx₅, Nat.le_trans hle dn, dne, hn₆⟩))
theorem made2 (T : ECls prog K mg nm C fI B newId initId bm) {f1 f2 : Str} (G : EFn2 prog K C fI f1 f2) {v1 v2 : Value} {rest : List Value} {kw : List (Str × Value)} (hbd : ∀ (x : Value) (qual : Str) (p0 p1 p2 : Pos) (body : List Stmt) (doc pm : Value) (an : Option Addr) (cd ct : Value) (cc : Addr), bindArgs (ksFn "__init__" qual (iA2 f1 f2 p0 p1 p2) body (iS2 f1 f2) .none .none doc pm an cd ct cc) ⟨x :: rest, kw⟩ = pure ([(("self" : Str), x), (f1, v1), (f2, v2)] : List (Str × Value)))
    (hz : rest.length ≤ sizeLine) (X : K.In s.heap) (hlim : s.heap.NoLimit) (hroom : A.depth + 1 < recursionLimit)
    (hG : s.heap.Ns mainGlobals mg) (hB : ∃ mb, s.heap.Ns builtinsNs mb ∧ ∀ x : Str, x ≠ "__name__" → mb x = bootBuiltins x)
    (hq : ∀ h' tk e d, MadeN [(f2, v2), (f1, v1)] s.heap h' e C d → R (.ok (.ret (.ref e))) { s with heap := h', toks := tk }) :
    codeAny (model prog w) A (.call (.ref C) ⟨rest, kw⟩) R s := by
  obtain ⟨cnm, q, N, bs, sn, sub, ab, col, dd, k0, k1, k2, k3, k5, hC⟩ := T.cls
  obtain ⟨hp, g, dr, tk, os⟩ := s
  have k : ∀ b o, hp.get? b = some o → ((hp.push (kdv_tup rest)).push (excO C hp.objs.size)).get? b = some o := fun b o e => Heap.get?_push_of_some _ (Heap.get?_push_of_some _ e)
  have hget : ((hp.push (kdv_tup rest)).push (excO C hp.objs.size)).get? (hp.objs.size + 1) = some (excO C hp.objs.size) := by heap_get
  have hnx : K.lookup (hp.objs.size + 1) = none := by
    cases e : K.lookup (hp.objs.size + 1) with
    | none => rfl
    | some o =>
      have z : hp.get? (hp.objs.size + 1) = some o := X _ _ e
      exact absurd (Nat.lt_of_succ_lt (Heap.lt_size z)) (Nat.lt_irrefl _)
  refine call_kw T.base.F (X _ _ hC) (looks_findIn X T.iC) (fun self => bind_fn X self T.tC) hz ?_
  refine sup_init2 (s := ⟨(hp.push (kdv_tup rest)).push (excO C hp.objs.size), g, dr, tk, os⟩) T G (hbd _) (X.keeps k) (hlim.keeps k) hget hnx hroom (hG.keeps k) (let ⟨mb, b1, b2⟩ := hB; ⟨mb, b1.keeps k, b2⟩) fun h' tk' d t1 ⟨k', hx, hd⟩ => ?_
  have old : ∀ b o, hp.get? b = some o → h'.get? b = some o := fun b o e => k' b o (Nat.ne_of_lt (Nat.lt_succ_of_lt (Heap.lt_size e))) (k b o e)
  refine ⟨rfl, hq h' tk' (hp.objs.size + 1) d ⟨old, Nat.le_succ _, ⟨_, hx⟩, ?_⟩⟩
  cases d with
  | none => exact hd
  | some dx =>
    obtain ⟨dn, dne, hns⟩ := hd
    have z : hp.objs.size + 1 + 1 ≤ dx := by
      first
        | (simpa only [Heap.size_push] using dn)
        | exact dn
        | (have q := dn; rw [Heap.size_push, Heap.size_push] at q; exact q)
    exact ⟨Nat.le_trans (Nat.le_trans (Nat.le_succ _) (Nat.le_succ _)) z, dne, hns⟩
end
end MEX
end PySem
namespace L2
open PySem PySem.Spec PyProof.Rows
/-- v is an error of the class at C with the fields fs -/
def IsErr (H : Hp) (v : V) (C : Addr) (fs : List (Str × V)) : Prop := ∃ e, v = .ref e ∧ ((fs = [] ∧ H e = some (exo e C none)) ∨ ∃ dx, H e = some (exo e C (some dx)) ∧ H dx = some (exd dx fs))
theorem IsErr.up {H H' : Hp} {v : V} {C : Addr} {fs : List (Str × V)} (s : Same H H') (h : IsErr H v C fs) : IsErr H' v C fs := by
  obtain ⟨e, ev, h⟩ := h
  refine ⟨e, ev, ?_⟩
  rcases h with ⟨h1, h2⟩ | ⟨dx, h1, h2⟩
  · exact .inl ⟨h1, s _ _ h2⟩
  · exact .inr ⟨dx, s _ _ h1, s _ _ h2⟩
/-- the values of the fields -/
inductive RelF : List (Str × V) → List (Str × Value) → Prop where
  | nil : RelF [] []
  | cons {f : Str} {v : V} {u : Value} {fs : List (Str × V)} {us : List (Str × Value)} : RelV v u → RelF fs us → RelF ((f, v) :: fs) ((f, u) :: us)
theorem RelF.look {fs : List (Str × V)} {us : List (Str × Value)} (r : RelF fs us) (y : Str) : RelO (fs.lookup y) (us.lookup y) := by
  induction r with
  | nil => trivial
  | @cons f v u fs us rv r ih =>
    by_cases h : y = f
    · subst h
      simpa [List.lookup] using (show RelO (some v) (some u) from rv)
    · have q : (y == f) = false := by simpa using h
      simpa [List.lookup, q] using ih
section
variable {X : Cx} {C : Addr}
/-- the class at C, called by args, makes an error -/
def Makes (X : Cx) (C : Addr) (n : Nat) (ag : List Value → Args) (gv : List V → List (Str × V)) : Prop :=
  ∀ (pins : List (Addr × Obj)) (σ : St) (H : Hp) (s : Shared) (Q : VK) (us : List Value) (vs : List V), Inv X pins σ H s → Vals vs us → vs.length = n → (∀ v H2, Same H H2 → IsErr H2 v C (gv vs) → Q v H2) →
    wpAny (model X.prog X.w) X.A (call (.ref C) (ag us).pos (ag us).kw) (EP X pins σ Q) X.xe s
theorem makes_of {n : Nat} {ag : List Value → Args} {gv : List V → List (Str × V)}
    (h : ∀ (s : Shared) (us : List Value) (vs : List V) (R : Result → Shared → Prop), X.K.In s.heap → s.heap.NoLimit → s.heap.Ns mainGlobals X.mg → (∃ mb, s.heap.Ns builtinsNs mb ∧ ∀ x : Str, x ≠ "__name__" → mb x = bootBuiltins x) → Vals vs us → vs.length = n →
      ∃ fu, RelF (gv vs) fu ∧ ((∀ h' tk e d, PySem.MEX.MadeN fu s.heap h' e C d → R (.ok (.ret (.ref e))) { s with heap := h', toks := tk }) → codeAny (model X.prog X.w) X.A (.call (.ref C) (ag us)) R s)) : Makes X C n ag gv := by
  intro pins σ H s Q us vs I r hl hq
  have hlim := I.nolimit
  have hG : s.heap.Ns mainGlobals X.mg := I.ok.mod.glob.keeps I.bk
  have hB : ∃ mb, s.heap.Ns builtinsNs mb ∧ ∀ x : Str, x ≠ "__name__" → mb x = bootBuiltins x := let ⟨mb, b1, b2⟩ := I.ok.mod.blt; ⟨mb, b1.keeps I.bk, b2⟩
  refine wpAny_call ?_
  obtain ⟨fu, rf, hc⟩ := h s us vs (fun r s' => match r with
    | .ok (.ret v) => EP X pins σ Q v s'
    | .ok _ => False
    | .error e => X.xe e s') I.kIn hlim hG hB r hl
  refine codeAny_mono (hc fun h' tk e d M => ?_) fun r s' z => ?_
  · show EP X pins σ Q (.ref e) { s with heap := h', toks := tk }
    obtain ⟨t1, ho⟩ := M.obj
    have He : H e = none := I.hok.fresh M.new
    have hpe : s.heap.get? e = none := by
      cases z : s.heap.get? e with
      | none => rfl
      | some o => exact absurd (Heap.lt_size z) (Nat.not_lt.mpr M.new)
    have hd := M.dict
    cases d with
    | none =>
      have hd' : fu = [] := hd
      subst hd'
      have eg : gv vs = [] := by
        revert rf
        generalize gv vs = z
        intro rf
        cases rf
        rfl
      have J := I.laidN (h' := h') (a := e) (o := exo e C none) (t' := tk) M.keep hpe He (exo_ok ho)
      refine ⟨.ref e, _, J, rfl, hq _ _ (fun b o q => ?_) ⟨e, rfl, .inl ⟨eg, upd_same⟩⟩⟩
      rw [upd_ne (ne_of_none q He)]
      exact q
    | some dx =>
      obtain ⟨dn, dne, hns⟩ := hd
      have Hd : H dx = none := I.hok.fresh dn
      obtain ⟨G', g1, g2⟩ := restrict h' fun b => decide (b ≠ e)
      have gk : ∀ b, b ≠ e → G'.get? b = h'.get? b := fun b hb => g1 b (decide_eq_true hb)
      have ge : G'.get? e = none := g2 e (by simp)
      have old : ∀ b o, s.heap.get? b = some o → G'.get? b = some o := fun b o q => (gk b (Nat.ne_of_lt (Nat.lt_of_lt_of_le (Heap.lt_size q) M.new))).trans (M.keep b o q)
      have nsG : G'.Ns1 dx (fun y => fu.lookup y) := hns.at (fun o q => (gk dx dne).trans q)
      have J := I.laid (t' := tk) (h' := G') (a := dx) (o := exd dx (gv vs)) old dn (exd_ok nsG rf.look)
      have He2 : upd H dx (exd dx (gv vs)) e = none := by
        rw [upd_ne (Ne.symm dne)]
        exact He
      have J2 := J.laidN (h' := h') (a := e) (o := exo e C (some dx)) (t' := tk) (fun b o q => by
        by_cases hb : b = e
        · have q' : G'.get? b = some o := q
          rw [hb, ge] at q'
          cases q'
        · exact (gk b hb).symm.trans q) ge He2 (exo_ok ho)
      refine ⟨.ref e, _, J2, rfl, hq _ _ (fun b o q => ?_) ⟨e, rfl, .inr ⟨dx, upd_same, ?_⟩⟩⟩
      · rw [upd_ne (ne_of_none q He), upd_ne (ne_of_none q Hd)]
        exact q
      · rw [upd_ne dne]
        exact upd_same
  · rcases r with e | (v | _ | _ | _) <;> exact z
section
variable {nm : Str} {fI : Addr} {B newId initId : String} {bm : List Value} {k : Nat}
theorem makes0 (T : PySem.MEX.ECls X.prog X.K X.mg nm C fI B newId initId bm) (G : PySem.MEX.EFn0 X.prog X.K C fI) (hr : Room k X.A) : Makes X C 0 (fun us => ⟨us, []⟩) (fun _ => []) := by
  refine makes_of fun s us vs R hK hl hG hB r hn => ⟨[], .nil, fun hq => ?_⟩
  cases vs with
  | cons _ _ => cases hn
  | nil =>
    cases r
    exact PySem.MEX.made0 T G (fun x => fun qual p0 body doc pm an cd ct cc => G.fok.bp qual p0 body doc pm an cd ct cc x) (Nat.zero_le _) hK hl (by have := hr.dp; omega) hG hB hq
theorem makes1 {f1 : Str} (T : PySem.MEX.ECls X.prog X.K X.mg nm C fI B newId initId bm) (G : PySem.MEX.EFn1 X.prog X.K C fI f1) (hr : Room k X.A) : Makes X C 1 (fun us => ⟨us, []⟩) (fun vs => [(f1, vs.getD 0 .non)]) := by
  refine makes_of fun s us vs R hK hl hG hB r hn => ?_
  match vs, hn with
  | [v], _ =>
    cases r with
    | cons rv rn =>
      cases rn
      rename_i u
      exact ⟨[(f1, u)], .cons rv .nil, fun hq => PySem.MEX.made1 T G (v1 := u) (fun x => fun qual p0 p1 body doc pm an cd ct cc => G.fok.bp qual p0 p1 body doc pm an cd ct cc x u) (by show 1 ≤ sizeLine; decide) hK hl (by have := hr.dp; omega) hG hB hq⟩
theorem makes1k {f1 : Str} (T : PySem.MEX.ECls X.prog X.K X.mg nm C fI B newId initId bm) (G : PySem.MEX.EFn1 X.prog X.K C fI f1) (hr : Room k X.A) : Makes X C 1 (fun us => ⟨[], [f1].zip us⟩) (fun vs => [(f1, vs.getD 0 .non)]) := by
  refine makes_of fun s us vs R hK hl hG hB r hn => ?_
  match vs, hn with
  | [v], _ =>
    cases r with
    | cons rv rn =>
      cases rn
      rename_i u
      exact ⟨[(f1, u)], .cons rv .nil, fun hq => PySem.MEX.made1 T G (v1 := u) (fun x => fun qual p0 p1 body doc pm an cd ct cc => G.fok.bk qual p0 p1 body doc pm an cd ct cc x u) (Nat.zero_le _) hK hl (by have := hr.dp; omega) hG hB hq⟩
theorem makes2 {f1 f2 : Str} (T : PySem.MEX.ECls X.prog X.K X.mg nm C fI B newId initId bm) (G : PySem.MEX.EFn2 X.prog X.K C fI f1 f2) (hr : Room k X.A) : Makes X C 2 (fun us => ⟨us, []⟩) (fun vs => [(f2, vs.getD 1 .non), (f1, vs.getD 0 .non)]) := by
  refine makes_of fun s us vs R hK hl hG hB r hn => ?_
  match vs, hn with
  | [v, v'], _ =>
    cases r with
    | cons rv rn =>
      cases rn with
      | cons rv' rn =>
        cases rn
        rename_i u u'
        exact ⟨[(f2, u'), (f1, u)], .cons rv' (.cons rv .nil), fun hq => PySem.MEX.made2 T G (v1 := u) (v2 := u') (fun x => fun qual p0 p1 p2 body doc pm an cd ct cc => G.fok.bp qual p0 p1 p2 body doc pm an cd ct cc x u u') (by show 2 ≤ sizeLine; decide) hK hl (by have := hr.dp; omega) hG hB hq⟩
theorem makes2k {f1 f2 : Str} (T : PySem.MEX.ECls X.prog X.K X.mg nm C fI B newId initId bm) (G : PySem.MEX.EFn2 X.prog X.K C fI f1 f2) (hr : Room k X.A) : Makes X C 2 (fun us => ⟨[], [f2, f1].zip us⟩) (fun vs => [(f2, vs.getD 0 .non), (f1, vs.getD 1 .non)]) := by
  refine makes_of fun s us vs R hK hl hG hB r hn => ?_
  match vs, hn with
  | [v, v'], _ =>
    cases r with
    | cons rv rn =>
      cases rn with
      | cons rv' rn =>
        cases rn
        rename_i u u'
        exact ⟨[(f2, u), (f1, u')], .cons rv (.cons rv' .nil), fun hq => PySem.MEX.made2 T G (v1 := u') (v2 := u) (fun x => fun qual p0 p1 p2 body doc pm an cd ct cc => G.fok.bk qual p0 p1 p2 body doc pm an cd ct cc x u' u) (Nat.zero_le _) hK hl (by have := hr.dp; omega) hG hB hq⟩
end
/-- nm(..) as a value -/
def tMkE (C : Addr) (n : Nat) (gv : List V → List (Str × V)) (ta : TA) : TE := fun σ H Q => ta σ H fun vs H1 => vs.length = n ∧ ∀ v H2, Same H1 H2 → IsErr H2 v C (gv vs) → Q v H2
section
variable {n : Nat} {gv : List V → List (Str × V)} {x : Str} {p pos : Pos} {e : Expr} {es : List Expr} {kws : List Keyword} {t tk : TA} {ks : List Str}
theorem pe_mkE (M : Makes X C n (fun us => ⟨us, []⟩) gv) (kC : PySem.W.keepIn X.K (.ref C) = true) (hg : Gl X x) (hm : X.mg x = some (.ref C)) (ha : PA X (e :: es) t) (hd : (x == ("__debug__" : Str)) = false := by decide)
    (he : starEach (e :: es) X.env = (false, eval e X.env) :: starEach es X.env := by rfl) (hpl : (backTo pos (starEach es X.env)).any (·.1) = false := by rfl) :
    PE X (.Call (.Name x p) (e :: es) [] pos) (tMkE C n gv t) := by
  refine ⟨fun pins s σ H Q I h => ?_⟩
  refine wpAny_Call_Name_kw (ld_glob I hg hm ?_ hd)
  refine PySem.W.callWith_K (h₀ := X.base) I.ok.mod.kin kC (thn (ha.run pos pins s σ H _ I h) fun us s1 hh => ?_) he hpl
  obtain ⟨vs, H1, I1, r1, hn, q1⟩ := hh
  exact ⟨I1.kIn, M pins σ H1 s1 Q us vs I1 r1 hn q1⟩
theorem pe_mkE0 (M : Makes X C 0 (fun us => ⟨us, []⟩) gv) (kC : PySem.W.keepIn X.K (.ref C) = true) (hg : Gl X x) (hm : X.mg x = some (.ref C)) (hd : (x == ("__debug__" : Str)) = false := by decide) :
    PE X (.Call (.Name x p) [] [] pos) (tMkE C 0 gv tNil) := by
  refine ⟨fun pins s σ H Q I h => ?_⟩
  refine wpAny_Call_Name_kw (ld_glob I hg hm ?_ hd)
  exact PySem.W.callWith_K0 I.kIn kC (M pins σ H s Q [] [] I .nil rfl h.2)
theorem pe_mkEK (M : Makes X C n (fun us => ⟨[], ks.zip us⟩) gv) (kC : PySem.W.keepIn X.K (.ref C) = true) (hg : Gl X x) (hm : X.mg x = some (.ref C)) (hkw : PK X kws tk)
    (hall : (backToKw pos (keywordEach kws X.env)).all (·.1.isSome) = true := by rfl) (hks : (backToKw pos (keywordEach kws X.env)).filterMap (·.1) = ks := by rfl) (hdb : (x == ("__debug__" : Str)) = false := by decide)
    (hpl : ((backTo pos (starEach [] X.env)).any (·.1) || (backToKw pos (keywordEach kws X.env)).any (·.1.isNone)) = false := by rfl) :
    PE X (.Call (.Name x p) [] kws pos) (tMkE C n gv tk) := by
  refine ⟨fun pins s σ H Q I h => ?_⟩
  refine wpAny_Call_Name_kw (ld_glob I hg hm ?_ hdb)
  refine PySem.W.callWith_KW0 (h₀ := X.base) I.ok.mod.kin kC hall ?_ hpl
  refine thn (hkw.run pos pins s σ H _ I h) fun ws s2 ⟨zs, H2, I2, rz, l1, q2⟩ => ⟨I2.kIn, ?_⟩
  rw [hks]
  exact M pins σ H2 s2 Q ws zs I2 rz l1 q2
end
/-- where an error stands -/
theorem inst_err {P : Program} {w : World} {H : Hp} {h : Heap} {v : V} {fs : List (Str × V)} (hok : HOk P w H h) (hv : IsErr H v C fs) : ∃ (e : Addr) (oe : Obj) (od : Option Obj), v = .ref e ∧ PySem.W.InstAt h e oe C od ∧ (∀ (f : Str) (y : V), fs.lookup f = some y → ∃ (o : Obj) (u : Value), od = some o ∧ RelV y u ∧ PySem.W.lookIn f o = some (some u)) := by
  obtain ⟨e, rfl, h1⟩ := hv
  rcases h1 with ⟨h1, h2⟩ | ⟨dx, h1, h2⟩
  · obtain ⟨t1, ho⟩ := exo_at hok h2
    refine ⟨e, _, none, rfl, ⟨ho, rfl, rfl, trivial⟩, fun f y q => ?_⟩
    rw [h1] at q
    cases q
  · obtain ⟨t1, ho⟩ := exo_at hok h1
    obtain ⟨mA, hns, rel⟩ := exd_at hok h2
    obtain ⟨od, hod, hl⟩ := lookIn_ns hns
    refine ⟨e, _, some od, rfl, ⟨ho, rfl, rfl, hod⟩, fun f y q => ?_⟩
    obtain ⟨u, hu, ru⟩ := RelO.some_of (v := y) (o := mA f) (by rw [← q]; exact rel f)
    exact ⟨od, u, rfl, ru, by rw [hl, hu]⟩
/-- e.f of an error -/
def tErrF (K : PySem.W.Frag) (f : Str) (te : TE) : TE := fun σ H Q => te σ H fun x H1 => ∃ (C : Addr) (fs : List (Str × V)) (v : V), IsErr H1 x C fs ∧ XfC K C ∧ PySem.W.findIn K (.ref C) f = some none ∧ fs.lookup f = some v ∧ Q v H1
theorem pe_errF {e : Expr} {te : TE} {pos : Pos} {n : Str} (he : PE X e te) (hb : attributeBase e n X.env (eval e X.env) = eval e X.env := by rfl) : PE X (.Attribute e n pos) (tErrF X.K n te) := by
  refine ⟨fun pins s σ H Q I h => ?_⟩
  refine attr_of hb (thn (he.run pins s σ H _ I h) fun u s1 hh => ?_)
  obtain ⟨x, H1, I1, rx, C, fs, v, hx, T, hno, l, q⟩ := hh
  obtain ⟨a, oe, od, rfl, J, hf⟩ := inst_err I1.hok hx
  obtain rfl : u = Value.ref a := rx
  obtain ⟨o, w, rfl, ru, hl⟩ := hf n v l
  exact HandSPX.exc_get I1.kIn J T.ga T.gg T.exC (PySem.W.findObj_own T.hdC hno rfl hl) (handed_of ru) ⟨v, H1, I1.tok _, ru, q⟩
/-- isinstance(error, c) -/
def rIsV (K : PySem.W.Frag) : List V → Hp → VK → Prop := fun xs H Q => ∃ (x c : V) (cv : Value) (C : Addr) (fs : List (Str × V)) (b : Bool), xs = [x, c] ∧ IsErr H x C fs ∧ ExcC K C ∧ (∀ u, RelV c u → u = cv) ∧ PySem.W.kitOne K (.ref C) cv = some b ∧ Q (.bl b) H
theorem call_isV : CallR X (.builtin "isinstance") (rIsV X.K) := by
  intro pins s σ H xs us Q I r h
  obtain ⟨x, c, cv, C, fs, b, rfl, hx, T, hcv, e, q⟩ := h
  cases r with
  | cons rx rr =>
    cases rr with
    | cons rt rr =>
      cases rr
      obtain ⟨a, oe, od, rfl, J, hf⟩ := inst_err I.hok hx
      cases rx
      have ec := hcv _ rt
      subst ec
      have hcl : (PySem.W.clsIn X.K C).isSome = true := by
        obtain ⟨cd, hc, _⟩ := PySem.W.any_some T.hd
        rw [hc]
        rfl
      exact PySem.W.kia_one (PySem.W.kitx_exc hcl T.hg T.hk T.hs T.ha T.hn T.ht T.hm) I.kIn J e (fun z => nomatch z) fun tk => ⟨.bl b, H, I.kept (t' := tk) fun _ _ z => z, rfl, q⟩
end
end L2
namespace MCH
open PySem PySem.Spec PyProof.Rows L2 PySem.W PySem.MEX PySem.HandSPX He
/-- an own error: its class's name, its fields, its base, its __init__ -/
structure ED where
  nm : Str
  fs : List Str
  B : String
  st : Stmt
def ED.nw (x : ED) : String := x.B ++ ".__new__"
def ED.ini (x : ED) : String := x.B ++ ".__init__"
def fnE (K : Frag) (x : ED) : FnV := match K.lookup (ma K (ga K x.nm) "__init__") with
  | some ⟨_, _, .func fd, _⟩ => some (fd.name, fd.params, fd.body, fd.scope, fd.globals, fd.builtins)
  | _ => none
def ED.val (x : ED) : FnV := some ("__init__", defArgs x.st, .stmts (defBody x.st), defScope x.st, mainGlobals, builtinsNs)
def ecB (K : Frag) (C : Addr) (newId : String) (bm : List Value) : Bool := match K.lookup C with
  | some ⟨.type c, _, .cls cd, sl⟩ => decide (c = "type") && (match cd.mro, sl.toList with
    | .ref C' :: bm', [_, _, _, _, some (.builtin n), _] => decide (C' = C) && (decide (n = newId) && (!cd.hasDel && (cd.hasDict && (bm' == bm))))
    | _, _ => false)
  | _ => false
theorem ecB_ok {K : Frag} {C : Addr} {newId : String} {bm : List Value} (h : ecB K C newId bm = true) : ∃ nm q N bs sn sub ab col dd k0 k1 k2 k3 k5, K.lookup C = some (excClassObj nm q C N bs bm true sn sub ab col dd k0 k1 k2 k3 k5 newId) := by
  unfold ecB at h
  cases q : K.lookup C with
  | none => rw [q] at h; cases h
  | some o =>
    obtain ⟨oc, od, dt, sl⟩ := o
    rw [q] at h
    cases oc with
    | type c =>
      cases dt with
      | cls cd =>
        obtain ⟨h1, h2⟩ := ba h
        have e1 : c = "type" := of_decide_eq_true h1
        subst e1
        obtain ⟨nm, bs, mro, ns, qn, hd, sn, sb, ab, col, del⟩ := cd
        obtain ⟨sl⟩ := sl
        dsimp only at h2
        split at h2
        · rename_i C' bm' k0 k1 k2 k3 n k5
          obtain ⟨a1, h3⟩ := ba h2
          obtain ⟨a2, h4⟩ := ba h3
          obtain ⟨a3, h5⟩ := ba h4
          obtain ⟨a4, a5⟩ := ba h5
          have z1 := of_decide_eq_true a1
          have z2 := of_decide_eq_true a2
          have z3 := beq_iff_eq.mp a5
          subst z1 z2 z3
          simp only [Bool.not_eq_true'] at a3
          subst a3 a4
          exact ⟨nm, qn, ns, bs, sn, sb, ab, col, od, k0, k1, k2, k3, k5, rfl⟩
        · cases h2
      | _ => cases h
    | _ => cases dt <;> cases h
def eB (prog : Program) (bm : String → List Value) (K : Frag) (x : ED) : Bool :=
  eqO (nsIn K mainGlobals x.nm) (some (some (.ref (ga K x.nm)))) && (ecB K (ga K x.nm) x.nw (bm x.B) && (eqO (findIn K (.ref (ga K x.nm)) "__setattr__") (some (some (.builtin "object.__setattr__"))) &&
  (eqO (findIn K (.ref (ga K x.nm)) "__getattribute__") (some (some (.builtin "BaseException.__getattribute__"))) && (eqO (findIn K (.ref (ga K x.nm)) "__getattr__") (some none) && ((x.fs.all fun f => eqO (findIn K (.ref (ga K x.nm)) f) (some none)) &&
  (eqO (findIn K (.ref (ga K x.nm)) "__init__") (some (some (.ref (ma K (ga K x.nm) "__init__")))) && (decide (typeIn K (.ref (ma K (ga K x.nm) "__init__")) = some (.type "function")) && (keepIn K (.ref (ga K x.nm)) &&
  (decide (subIn K (.ref (ga K x.nm)) (.type "BaseException") = some true) && (decide (subIn K (.ref (ga K x.nm)) (.type x.B) = some true) && (hasDictIn K (ga K x.nm) &&
  (decide (mroIn K (ga K x.nm) (.ref (ga K x.nm)) = some true) && (eqO (ks_superIn K (ga K x.nm) (ga K x.nm) "__init__") (some (some (.builtin x.ini))) &&
  (eqO (nsIn K cStatics "thirdparty.any") (some none) && (eqO (nsIn K mainGlobals "super") (some none) &&
  (eqO (findIn K (.ref (ga K x.nm)) "__class__") (some (some (.builtin "object.__class__"))) && (eqO (specialIn K (.builtin "object.__class__") "__get__") (some (some (.builtin "getset_descriptor.__get__"))) && (decide (takesIn K (.builtin "object.__class__") = some true) &&
  (decide (mroIn K (ga K x.nm) (.type "object") = some true) && fnB prog K (ga K x.nm) (ma K (ga K x.nm) "__init__"))))))))))))))))))))
theorem eB_ok {prog : Program} {bmf : String → List Value} {K : Frag} {h : Heap} {mg : Str → Option Value} (X : K.In h) (G : h.Ns mainGlobals mg) {x : ED} (c : eB prog bmf K x = true) (htop : (prog.main.scope.names.lookup ("super" : Str)).isSome = false)
    (b : BaseE x.B x.nw x.ini (bmf x.B)) :
    ECls prog K mg x.nm (ga K x.nm) (ma K (ga K x.nm) "__init__") x.B x.nw x.ini (bmf x.B) ∧ (∀ f ∈ x.fs, findIn K (.ref (ga K x.nm)) f = some none) ∧ fnB prog K (ga K x.nm) (ma K (ga K x.nm) "__init__") = true := by
  unfold eB at c
  simp only [Bool.and_eq_true] at c
  obtain ⟨c1, c2, c3, c4, c5, c6, c7, c8, c9, c10, c11, c13, c15, c16, c17, c18, d1, d2, d3, d4, c19⟩ := c
  exact ⟨{ base := b, gC := mg_of X G (eqO_ok c1), cls := ecB_ok c2, sa := eqO_ok c3, ga := eqO_ok c4, gg := eqO_ok c5, iC := eqO_ok c7, tC := of_decide_eq_true c8, kC := c9, exC := of_decide_eq_true c10, beC := of_decide_eq_true c11, hdC := c13, mC := of_decide_eq_true c15, su := eqO_ok c16, tp := eqO_ok c17, noS := mg_none_of X G (eqO_ok c18), top := htop, cl1 := eqO_ok d1, cl2 := eqO_ok d2, cl3 := of_decide_eq_true d3, cl4 := of_decide_eq_true d4 },
    fun f hf => eqO_ok (List.all_eq_true.mp c6 f hf), c19⟩
theorem eFn0_ok {prog : Program} {K : Frag} {x : ED} (c19 : fnB prog K (ga K x.nm) (ma K (ga K x.nm) "__init__") = true) (no : ∀ f ∈ x.fs, findIn K (.ref (ga K x.nm)) f = some none) (e : fnE K x = x.val) (fok : FOk0) (hfs : x.fs = [])
    {p0 q1 q2 q3 q5 q6 : Pos} (eA : defArgs x.st = iA0  p0) (eB : defBody x.st = iB0  q1 q2 q3 q5 q6) (eS : defScope x.st = iS0) (hpos : (q3.endLine == q5.line) = true) :
    EFn0 prog K (ga K x.nm) (ma K (ga K x.nm) "__init__") := by
  refine { fok := fok, fn := ?_ }
  unfold fnB at c19
  unfold fnE ED.val at e
  cases q : K.lookup (ma K (ga K x.nm) "__init__") with
  | none => rw [q] at c19; cases c19
  | some o =>
    obtain ⟨oc, od, dt, osl⟩ := o
    rw [q] at c19 e
    cases dt with
    | func fd =>
      obtain ⟨n1, n2, n3, n4, n5, n6, n7, n8, n9, n10, n11, n12, n13, n14, n15⟩ := fd
      simp only [Option.some.injEq, Prod.mk.injEq] at e
      obtain ⟨h1, h3, h4, h5, h6, h8⟩ := e
      rw [eA] at h3
      rw [eB] at h4
      rw [eS] at h5
      subst h1 h3 h4 h5 h6 h8
      dsimp only at c19
      simp only [Bool.and_eq_true, decide_eq_true_eq] at c19
      obtain ⟨d1, d2, d3⟩ := c19
      subst d1 d2
      split at d3
      · rename_i cda y cc
        simp only [Bool.and_eq_true, decide_eq_true_eq] at d3
        obtain ⟨m1, m2, m3, m4⟩ := d3
        subst m1
        refine ⟨n2, oc, od, n10, n11, n12, cda, n14, cc, osl, p0, q1, q2, q3, q5, q6, rfl, m2, ?_, ?_, hpos⟩
        · split at m3
          · rename_i _ _ vs _ e1
            split at m3
            · rename_i file tf e2
              exact ⟨_, _, vs, _, file, tf, e1, e2, m3⟩
            · cases m3
          · cases m3
        · split at m4
          · rename_i _ _ D _ e1
            have z := of_decide_eq_true m4
            subst z
            exact ⟨_, _, _, e1⟩
          · cases m4
      · cases d3
    | _ => cases c19
theorem eFn1_ok {prog : Program} {K : Frag} {x : ED} {f1 : Str} (c19 : fnB prog K (ga K x.nm) (ma K (ga K x.nm) "__init__") = true) (no : ∀ f ∈ x.fs, findIn K (.ref (ga K x.nm)) f = some none) (e : fnE K x = x.val) (fok : FOk1 f1) (hfs : x.fs = [f1])
    {p0 p1 q1 q2 q3 q5 q6 a1 b1 c1 d1 e1 : Pos} (eA : defArgs x.st = iA1 f1 p0 p1) (eB : defBody x.st = iB1 f1 q1 q2 q3 q5 q6 a1 b1 c1 d1 e1) (eS : defScope x.st = iS1 f1) (hpos : (q3.endLine == q5.line) = true) :
    EFn1 prog K (ga K x.nm) (ma K (ga K x.nm) "__init__") f1 := by
  refine { fok := fok, no1 := no f1 (by rw [hfs]; simp), fn := ?_ }
  unfold fnB at c19
  unfold fnE ED.val at e
  cases q : K.lookup (ma K (ga K x.nm) "__init__") with
  | none => rw [q] at c19; cases c19
  | some o =>
    obtain ⟨oc, od, dt, osl⟩ := o
    rw [q] at c19 e
    cases dt with
    | func fd =>
      obtain ⟨n1, n2, n3, n4, n5, n6, n7, n8, n9, n10, n11, n12, n13, n14, n15⟩ := fd
      simp only [Option.some.injEq, Prod.mk.injEq] at e
      obtain ⟨h1, h3, h4, h5, h6, h8⟩ := e
      rw [eA] at h3
      rw [eB] at h4
      rw [eS] at h5
      subst h1 h3 h4 h5 h6 h8
      dsimp only at c19
      simp only [Bool.and_eq_true, decide_eq_true_eq] at c19
      obtain ⟨d1, d2, d3⟩ := c19
      subst d1 d2
      split at d3
      · rename_i cda y cc
        simp only [Bool.and_eq_true, decide_eq_true_eq] at d3
        obtain ⟨m1, m2, m3, m4⟩ := d3
        subst m1
        refine ⟨n2, oc, od, n10, n11, n12, cda, n14, cc, osl, p0, p1, q1, q2, q3, q5, q6, a1, b1, c1, d1, e1, rfl, m2, ?_, ?_, hpos⟩
        · split at m3
          · rename_i _ _ vs _ e1
            split at m3
            · rename_i file tf e2
              exact ⟨_, _, vs, _, file, tf, e1, e2, m3⟩
            · cases m3
          · cases m3
        · split at m4
          · rename_i _ _ D _ e1
            have z := of_decide_eq_true m4
            subst z
            exact ⟨_, _, _, e1⟩
          · cases m4
      · cases d3
    | _ => cases c19
theorem eFn2_ok {prog : Program} {K : Frag} {x : ED} {f1 f2 : Str} (c19 : fnB prog K (ga K x.nm) (ma K (ga K x.nm) "__init__") = true) (no : ∀ f ∈ x.fs, findIn K (.ref (ga K x.nm)) f = some none) (e : fnE K x = x.val) (fok : FOk2 f1 f2) (hfs : x.fs = [f1, f2])
    {p0 p1 p2 q1 q2 q3 q5 q6 a1 a2 b1 c1 d1 e1 b2 c2 d2 e2 : Pos} (eA : defArgs x.st = iA2 f1 f2 p0 p1 p2) (eB : defBody x.st = iB2 f1 f2 q1 q2 q3 q5 q6 a1 a2 b1 c1 d1 e1 b2 c2 d2 e2) (eS : defScope x.st = iS2 f1 f2) (hpos : (q3.endLine == q5.line) = true) :
    EFn2 prog K (ga K x.nm) (ma K (ga K x.nm) "__init__") f1 f2 := by
  refine { fok := fok, no1 := no f1 (by rw [hfs]; simp), no2 := no f2 (by rw [hfs]; simp), fn := ?_ }
  unfold fnB at c19
  unfold fnE ED.val at e
  cases q : K.lookup (ma K (ga K x.nm) "__init__") with
  | none => rw [q] at c19; cases c19
  | some o =>
    obtain ⟨oc, od, dt, osl⟩ := o
    rw [q] at c19 e
    cases dt with
    | func fd =>
      obtain ⟨n1, n2, n3, n4, n5, n6, n7, n8, n9, n10, n11, n12, n13, n14, n15⟩ := fd
      simp only [Option.some.injEq, Prod.mk.injEq] at e
      obtain ⟨h1, h3, h4, h5, h6, h8⟩ := e
      rw [eA] at h3
      rw [eB] at h4
      rw [eS] at h5
      subst h1 h3 h4 h5 h6 h8
      dsimp only at c19
      simp only [Bool.and_eq_true, decide_eq_true_eq] at c19
      obtain ⟨d1, d2, d3⟩ := c19
      subst d1 d2
      split at d3
      · rename_i cda y cc
        simp only [Bool.and_eq_true, decide_eq_true_eq] at d3
        obtain ⟨m1, m2, m3, m4⟩ := d3
        subst m1
        refine ⟨n2, oc, od, n10, n11, n12, cda, n14, cc, osl, p0, p1, p2, q1, q2, q3, q5, q6, a1, a2, b1, c1, d1, e1, b2, c2, d2, e2, rfl, m2, ?_, ?_, hpos⟩
        · split at m3
          · rename_i _ _ vs _ e1
            split at m3
            · rename_i file tf e2
              exact ⟨_, _, vs, _, file, tf, e1, e2, m3⟩
            · cases m3
          · cases m3
        · split at m4
          · rename_i _ _ D _ e1
            have z := of_decide_eq_true m4
            subst z
            exact ⟨_, _, _, e1⟩
          · cases m4
      · cases d3
    | _ => cases c19
/-! ### the hook -/
def asS (g : Addr → Option Obj) : Nat → List Addr
  | 0 => [mainGlobals, cStatics, sysModules]
  | n + 1 => growD g (asS g n)
def obsE (n : Nat) (prog : Program) (bm : String → List Value) (fa : List Fa) (fn : List DefD) (xs : List ED) (ex : Frag → Bool) (g : Addr → Option Obj) : AlM :=
  (obsD fa fn (frG g (asS g n)), (xs.all fun x => eB prog bm (frG g (asS g n)) x) && ex (frG g (asS g n)), xs.map fun x => fnE (frG g (asS g n)) x)
def valE (fn : List DefD) (xs : List ED) : AlM := (valD fn, true, xs.map ED.val)
structure SaysEr (prog : Program) (bm : String → List Value) (fa : List Fa) (fn : List DefD) (xs : List ED) (ex : Frag → Bool) (K : Frag) : Prop where
  d : SaysD fa fn K
  x : ∀ x ∈ xs, eB prog bm K x = true ∧ fnE K x = x.val
  e : ex K = true
theorem saysEr_of {n : Nat} {prog : Program} {bm : String → List Value} {fa : List Fa} {fn : List DefD} {xs : List ED} {ex : Frag → Bool} {g : Addr → Option Obj} (e : obsE n prog bm fa fn xs ex g = valE fn xs) : SaysEr prog bm fa fn xs ex (frG g (asS g n)) := by
  have e1 := congrArg (fun z : AlM => z.1) e
  have e2 := congrArg (fun z : AlM => z.2.1) e
  have e3 := congrArg (fun z : AlM => z.2.2) e
  obtain ⟨b1, b2⟩ := ba e2
  exact ⟨e1, fun x hx => ⟨List.all_eq_true.mp b1 x hx, map_eq_at e3 x hx⟩, b2⟩
def hookE (n : Nat) (prog : Program) (bm : String → List Value) (fa : List Fa) (fn : List DefD) (xs : List ED) (ex : Frag → Bool) : PySem.W.Hook where
  α := AlM
  obs := fun s => obsE n prog bm fa fn xs ex s.heap.get?
  val := fun _ => valE fn xs
  says := fun w h => ∃ K : PySem.W.Frag, K.In h ∧ SaysEr prog bm fa fn xs ex K
  of := fun _ _ e => ⟨_, frG_in, saysEr_of e⟩
  keeps := fun _ _ _ ⟨K, hK, c⟩ k => ⟨K, PySem.W.Frag.In.keeps hK k, c⟩
theorem obsE_eq {n : Nat} {prog : Program} {bm : String → List Value} {fa : List Fa} {fn : List DefD} {xs : List ED} {ex : Frag → Bool} {g : Addr → Option Obj} {s : Shared} (h : ∀ a, g a = s.heap.get? a) : obsE n prog bm fa fn xs ex g = (hookE n prog bm fa fn xs ex).obs s := by
  have e : g = s.heap.get? := funext h
  rw [e] <;> rfl
end MCH
namespace L2
open PySem PySem.Spec PyProof.Rows
/-! ### repr of data with empty dicts in it -/
/-- the written part knows sys.modules, a dict -/
def SysK (K : PySem.W.Frag) : Prop := ∃ o : Obj, K.lookup sysModules = some o ∧ o.cls = .type "dict"
section
variable {X : Cx} {pins : List (Addr × Obj)} {σ : St} {H : Hp} {s : Shared}
mutual
theorem Dq.reads (hS : SysK X.K) (I : Inv X pins σ H s) : ∀ (d : PyData) (v : V) (u : Value), Dq X.K H v d → RelV v u → ∃ as, Reads s.heap u d as ∧ sysModules ∉ as
  | .none, _, _, h, r => by
    cases h
    cases r
    exact ⟨_, Reads.none, by simp⟩
  | .bool b, _, _, h, r => by
    cases h
    cases r
    exact ⟨_, Reads.bool b, by simp⟩
  | .int i, _, _, h, r => by
    cases h
    obtain ⟨t, rfl⟩ := r
    exact ⟨_, Reads.int i t, by simp⟩
  | .str x, _, _, h, r => by
    cases h
    obtain ⟨t, rfl⟩ := r
    exact ⟨_, Reads.str x t, by simp⟩
  | .list ds, _, _, h, r => by
    cases h with
    | lst hs ha =>
      cases r
      obtain ⟨its, rv, ⟨o, n, ho, hc, _, hd⟩, _⟩ := I.list hs
      obtain ⟨as, hr, hn⟩ := DqA.reads hS I ds _ its ha rv
      refine ⟨_, Reads.list ho hc hd hr, fun z => ?_⟩
      rcases List.mem_cons.mp z with z | z
      · obtain ⟨o', h1, h2⟩ := hS
        have q := I.kIn _ _ h1
        rw [z, ho] at q
        cases q
        rw [hc] at h2
        exact absurd h2 (by decide)
      · exact hn z
  | .tuple ds, _, _, h, r => by
    cases h with
    | tup hs ha =>
      cases r
      obtain ⟨its, rv, ⟨o, ho, hc, n, hd⟩, _⟩ := I.tuple hs
      obtain ⟨as, hr, hn⟩ := DqA.reads hS I ds _ its ha rv
      exact ⟨_, Reads.tuple ho hc hd hr, hn⟩
  | .dict kvs, _, _, h, r => by
    cases h with
    | dct hd =>
      cases r
      rename_i a
      obtain ⟨_, ns, vs, hkv, o, es, ep, ho, ex, dt, _, pr, _⟩ := I.hok a _ hd
      cases hkv
      have e0 : es.toList = [] := by
        revert pr
        generalize es.toList = z
        intro pr
        cases pr
        rfl
      refine ⟨_, Reads.dict (kvs := []) (as := []) (bs := []) ho ex.1 dt (by rw [e0]; exact ReadsAll.nil) (by rw [e0]; exact ReadsAll.nil), fun z => ?_⟩
      have z' : sysModules = a := by simpa using z
      rw [z'] at ns
      simp at ns
theorem DqA.reads (hS : SysK X.K) (I : Inv X pins σ H s) : ∀ (ds : List PyData) (vs : List V) (us : List Value), DqA X.K H vs ds → Vals vs us → ∃ as, ReadsAll s.heap us ds as ∧ sysModules ∉ as
  | [], _, _, h, r => by
    cases h
    cases r
    exact ⟨_, ReadsAll.nil, by simp⟩
  | d :: ds, _, _, h, r => by
    cases h with
    | cons h1 h2 =>
      cases r with
      | cons r1 r2 =>
        obtain ⟨as, q1, n1⟩ := Dq.reads hS I d _ _ h1 r1
        obtain ⟨bs, q2, n2⟩ := DqA.reads hS I ds _ _ h2 r2
        exact ⟨_, ReadsAll.cons q1 q2, fun z => (List.mem_append.mp z).elim n1 n2⟩
end
end
/-- repr(x) -/
def rReprQ (K : PySem.W.Frag) : List V → Hp → VK → Prop := fun xs H Q => ∃ (v : V) (d : PyData), xs = [v] ∧ Dq K H v d ∧ d.showable = true ∧ d.depth ≤ 60 ∧ d.shown.length ≤ sizeLine ∧ Q (.str d.shown) H
theorem call_reprQ {X : Cx} (hS : SysK X.K) (hgd : X.A.guards = some []) (hu : X.A.units + 64 < cLine) : CallR X (.builtin "repr") (rReprQ X.K) := by
  intro pins s σ H xs us Q I r h
  obtain ⟨v, d, rfl, hd, sh, dp, hz, q⟩ := h
  obtain ⟨u, rfl, ru⟩ := vals1 r
  obtain ⟨as, hr, hns⟩ := Dq.reads hS I d v u hd ru
  cases hd with
  | non => cases (show u = Value.none from ru); exact PySem.P.repr_of_none ⟨.str _, H, I.tok _, ⟨_, rfl⟩, q⟩
  | bl b => cases (show u = Value.bool b from ru); exact PySem.P.repr_of_bool ⟨.str _, H, I.tok _, ⟨_, rfl⟩, q⟩
  | int i =>
    obtain ⟨t, rfl⟩ := (show ∃ t, u = Value.int i t from ru)
    exact PySem.P.repr_of_int (by simpa [PyData.showable] using sh) ⟨.str _, H, I.tok _, ⟨_, rfl⟩, q⟩
  | str x =>
    obtain ⟨t, rfl⟩ := (show ∃ t, u = Value.str x t from ru)
    exact PySem.P.repr_of_str ⟨.str _, H, I.tok _, ⟨_, rfl⟩, q⟩ hz
  | lst hs ha =>
    cases ru
    exact repr_of_reads' hr sh (fun _ => hns) hgd (by omega) (fun _ _ e => e) (fun h' u tk hk => ⟨.str _, H, I.kept (t' := tk) hk, ⟨_, rfl⟩, q⟩) hz
  | tup hs ha =>
    cases ru
    exact repr_of_reads' hr sh (fun _ => hns) hgd (by omega) (fun _ _ e => e) (fun h' u tk hk => ⟨.str _, H, I.kept (t' := tk) hk, ⟨_, rfl⟩, q⟩) hz
  | dct hs =>
    cases ru
    exact repr_of_reads' hr sh (fun _ => hns) hgd (by omega) (fun _ _ e => e) (fun h' u tk hk => ⟨.str _, H, I.kept (t' := tk) hk, ⟨_, rfl⟩, q⟩) hz
/-! ### n small data in a list -/
def heldB (d : PyData) : Bool := d.showable && (d.leavesShort 40 && (decide (d.depth ≤ 3) && decide (d.weight ≤ 200)))
structure Held (d : PyData) : Prop where
  sh : d.showable = true
  lv : d.leavesShort 40 = true
  dp : d.depth ≤ 3
  wt : d.weight ≤ 200
theorem held_of {d : PyData} (h : heldB d = true) : Held d := by
  unfold heldB at h
  simp only [Bool.and_eq_true, decide_eq_true_eq] at h
  exact ⟨h.1, h.2.1, h.2.2.1, h.2.2.2⟩
theorem held_rep {d : PyData} (h : Held d) : ∀ n : Nat, PyData.showableAll (List.replicate n d) = true ∧ PyData.leavesShortAll 40 (List.replicate n d) = true ∧ PyData.depthAll (List.replicate n d) ≤ 3 ∧ PyData.weightAll (List.replicate n d) ≤ 201 * n
  | 0 => ⟨rfl, rfl, Nat.zero_le _, Nat.zero_le _⟩
  | n + 1 => by
    obtain ⟨a1, a2, a3, a4⟩ := held_rep h n
    obtain ⟨c1, c2, c3, c4⟩ := h
    rw [List.replicate_succ]
    refine ⟨by simp [PyData.showableAll, c1, a1], by simp [PyData.leavesShortAll, c2, a2], ?_, ?_⟩
    · simp only [PyData.depthAll]; omega
    · simp only [PyData.weightAll]; omega
theorem held_list {d : PyData} (h : Held d) {n : Nat} (hn : n ≤ 1000) : (PyData.list (List.replicate n d)).showable = true ∧ (PyData.list (List.replicate n d)).depth ≤ 60 ∧ (PyData.list (List.replicate n d)).shown.length ≤ sizeLine := by
  obtain ⟨a1, a2, a3, a4⟩ := held_rep h n
  refine ⟨by simp [PyData.showable, a1], by simp only [PyData.depth]; omega, ?_⟩
  have z := PyData.shown_le 40 (by decide) (.list (List.replicate n d)) (by simpa only [PyData.leavesShort] using a2)
  simp only [PyData.weight] at z
  rw [sizeLine_eq]
  omega
theorem held_int {i : Int} (h : i.natAbs < 10 ^ 31) : Held (.int i) := by
  have e1 : i.natAbs.log2 < 104 := by
    by_cases h0 : i.natAbs = 0
    · rw [h0]; decide
    · exact (Nat.log2_lt h0).mpr (Nat.lt_trans h (by decide))
  refine ⟨by simp only [PyData.showable, decide_eq_true_eq]; omega, ?_, by simp [PyData.depth], ?_⟩
  · have e := int_text_length_le10 (k := 31) (by decide) h
    simp only [PyData.leavesShort, decide_eq_true_eq]
    show (Str.ofString (toString i)).length ≤ 40
    rw [PySem.ofString_length]
    omega
  · simp only [PyData.weight]
    split <;> omega
end L2
namespace K01
open PySem PySem.Spec PyProof.Rows L2
def top (i : Nat) : Stmt := PySem.Challenge.pw_mostcalls_k01_error_classes.main.body.getD i (.Pass ⟨0, 0, 0, 0⟩)
abbrev FnP (K : PySem.W.Frag) (x : Str) (st : Stmt) (f : Addr) (fd : FuncData) : Prop := FunD K x x (defArgs st) (defBody st) (defScope st) [] [] f fd
abbrev s_law_pool : Stmt := top 29
abbrev s_law_draw : Stmt := top 30
abbrev s_law_choose : Stmt := top 31
abbrev s_law_made : Stmt := top 32
abbrev s_law_named : Stmt := top 33
abbrev s_law_fields : Stmt := top 34
abbrev s_law_kinds : Stmt := top 35
abbrev s_law : Stmt := top 36
def nms : List Str := ["InvalidName", "InvalidPolicy", "InvalidPolicies", "InvalidServices", "InvalidPart", "InvalidText", "InvalidChoices", "InvalidChoice", "InvalidNumber", "InvalidRows", "InvalidTable", "InvalidMeasure", "InvalidLane", "InvalidState", "InvalidStep", "InvalidLine", "InvalidOffer", "InvalidWish", "InvalidQuestion", "InvalidCommand", "UnknownName", "TooLong", "LimitExceeded", "NothingToUndo", "NothingToRedo", "NoTrial", "NoSystem"]
abbrev ca (K : PySem.W.Frag) (x : Str) : Addr := He.ga K x
abbrev fa_ (K : PySem.W.Frag) (x : Str) : Addr := He.ma K (He.ga K x) "__init__"
def Cn (K : PySem.W.Frag) (i : Nat) : Addr := He.ga K (nms.getD i "")
def fsOf (v : V) (i : Nat) : List (Str × V) := [([("value", v)] : List (Str × V)), ([("field", v)] : List (Str × V)), ([("number", v)] : List (Str × V)), ([("number", v)] : List (Str × V)), ([("place", .str "other"), ("service", v)] : List (Str × V)), ([("line", v)] : List (Str × V)), ([("value", v)] : List (Str × V)), ([("path", v)] : List (Str × V)), ([("value", v)] : List (Str × V)), ([("value", v)] : List (Str × V)), ([("value", v)] : List (Str × V)), ([("value", v)] : List (Str × V)), ([("field", v)] : List (Str × V)), ([("value", v)] : List (Str × V)), ([("value", v)] : List (Str × V)), ([("field", v)] : List (Str × V)), ([("number", v)] : List (Str × V)), ([("number", v)] : List (Str × V)), ([("word", v)] : List (Str × V)), ([("word", v)] : List (Str × V)), ([("value", v)] : List (Str × V)), ([("service", v)] : List (Str × V)), ([("most", v)] : List (Str × V)), ([] : List (Str × V)), ([] : List (Str × V)), ([] : List (Str × V)), ([] : List (Str × V))].getD i []
def dues : List Int := [0, 0, 0, 0, 0, 0, 0, 0, 0, 0, 0, 0, 0, 0, 0, 0, 0, 0, 0, 0, 1, 2, 2, 3, 3, 3, 3]
def bass : List String := ["ValueError", "LookupError", "OverflowError", "RuntimeError"]
theorem fok_field : PySem.MEX.FOk1 "field" := ⟨by decide, rfl, by decide, rfl, rfl, fun _ _ _ _ _ _ _ _ _ _ _ _ => rfl, fun _ _ _ _ _ _ _ _ _ _ _ _ => rfl⟩
theorem fok_line : PySem.MEX.FOk1 "line" := ⟨by decide, rfl, by decide, rfl, rfl, fun _ _ _ _ _ _ _ _ _ _ _ _ => rfl, fun _ _ _ _ _ _ _ _ _ _ _ _ => rfl⟩
theorem fok_most : PySem.MEX.FOk1 "most" := ⟨by decide, rfl, by decide, rfl, rfl, fun _ _ _ _ _ _ _ _ _ _ _ _ => rfl, fun _ _ _ _ _ _ _ _ _ _ _ _ => rfl⟩
theorem fok_number : PySem.MEX.FOk1 "number" := ⟨by decide, rfl, by decide, rfl, rfl, fun _ _ _ _ _ _ _ _ _ _ _ _ => rfl, fun _ _ _ _ _ _ _ _ _ _ _ _ => rfl⟩
theorem fok_path : PySem.MEX.FOk1 "path" := ⟨by decide, rfl, by decide, rfl, rfl, fun _ _ _ _ _ _ _ _ _ _ _ _ => rfl, fun _ _ _ _ _ _ _ _ _ _ _ _ => rfl⟩
theorem fok_service : PySem.MEX.FOk1 "service" := ⟨by decide, rfl, by decide, rfl, rfl, fun _ _ _ _ _ _ _ _ _ _ _ _ => rfl, fun _ _ _ _ _ _ _ _ _ _ _ _ => rfl⟩
theorem fok_value : PySem.MEX.FOk1 "value" := ⟨by decide, rfl, by decide, rfl, rfl, fun _ _ _ _ _ _ _ _ _ _ _ _ => rfl, fun _ _ _ _ _ _ _ _ _ _ _ _ => rfl⟩
theorem fok_word : PySem.MEX.FOk1 "word" := ⟨by decide, rfl, by decide, rfl, rfl, fun _ _ _ _ _ _ _ _ _ _ _ _ => rfl, fun _ _ _ _ _ _ _ _ _ _ _ _ => rfl⟩
theorem fok2 : PySem.MEX.FOk2 "service" "place" := ⟨by decide, rfl, by decide, by decide, rfl, by decide, by decide, rfl, rfl, fun _ _ _ _ _ _ _ _ _ _ _ _ _ _ => rfl, fun _ _ _ _ _ _ _ _ _ _ _ _ _ _ => rfl⟩
theorem fok0 : PySem.MEX.FOk0 := ⟨rfl, rfl, fun _ _ _ _ _ _ _ _ _ _ => rfl⟩
structure EAll (P : Program) (K : PySem.W.Frag) (mg : Str → Option Value) : Prop where
  e0 : PySem.MEX.ECls P K mg "InvalidName" (ca K "InvalidName") (fa_ K "InvalidName") "ValueError" "ValueError.__new__" "ValueError.__init__" PySem.MEX.bmV
  f0 : PySem.MEX.EFn1 P K (ca K "InvalidName") (fa_ K "InvalidName") "value"
  e1 : PySem.MEX.ECls P K mg "InvalidPolicy" (ca K "InvalidPolicy") (fa_ K "InvalidPolicy") "ValueError" "ValueError.__new__" "ValueError.__init__" PySem.MEX.bmV
  f1 : PySem.MEX.EFn1 P K (ca K "InvalidPolicy") (fa_ K "InvalidPolicy") "field"
  e2 : PySem.MEX.ECls P K mg "InvalidPolicies" (ca K "InvalidPolicies") (fa_ K "InvalidPolicies") "ValueError" "ValueError.__new__" "ValueError.__init__" PySem.MEX.bmV
  f2 : PySem.MEX.EFn1 P K (ca K "InvalidPolicies") (fa_ K "InvalidPolicies") "number"
  e3 : PySem.MEX.ECls P K mg "InvalidServices" (ca K "InvalidServices") (fa_ K "InvalidServices") "ValueError" "ValueError.__new__" "ValueError.__init__" PySem.MEX.bmV
  f3 : PySem.MEX.EFn1 P K (ca K "InvalidServices") (fa_ K "InvalidServices") "number"
  e4 : PySem.MEX.ECls P K mg "InvalidPart" (ca K "InvalidPart") (fa_ K "InvalidPart") "ValueError" "ValueError.__new__" "ValueError.__init__" PySem.MEX.bmV
  f4 : PySem.MEX.EFn2 P K (ca K "InvalidPart") (fa_ K "InvalidPart") "service" "place"
  e5 : PySem.MEX.ECls P K mg "InvalidText" (ca K "InvalidText") (fa_ K "InvalidText") "ValueError" "ValueError.__new__" "ValueError.__init__" PySem.MEX.bmV
  f5 : PySem.MEX.EFn1 P K (ca K "InvalidText") (fa_ K "InvalidText") "line"
  e6 : PySem.MEX.ECls P K mg "InvalidChoices" (ca K "InvalidChoices") (fa_ K "InvalidChoices") "ValueError" "ValueError.__new__" "ValueError.__init__" PySem.MEX.bmV
  f6 : PySem.MEX.EFn1 P K (ca K "InvalidChoices") (fa_ K "InvalidChoices") "value"
  e7 : PySem.MEX.ECls P K mg "InvalidChoice" (ca K "InvalidChoice") (fa_ K "InvalidChoice") "ValueError" "ValueError.__new__" "ValueError.__init__" PySem.MEX.bmV
  f7 : PySem.MEX.EFn1 P K (ca K "InvalidChoice") (fa_ K "InvalidChoice") "path"
  e8 : PySem.MEX.ECls P K mg "InvalidNumber" (ca K "InvalidNumber") (fa_ K "InvalidNumber") "ValueError" "ValueError.__new__" "ValueError.__init__" PySem.MEX.bmV
  f8 : PySem.MEX.EFn1 P K (ca K "InvalidNumber") (fa_ K "InvalidNumber") "value"
  e9 : PySem.MEX.ECls P K mg "InvalidRows" (ca K "InvalidRows") (fa_ K "InvalidRows") "ValueError" "ValueError.__new__" "ValueError.__init__" PySem.MEX.bmV
  f9 : PySem.MEX.EFn1 P K (ca K "InvalidRows") (fa_ K "InvalidRows") "value"
  e10 : PySem.MEX.ECls P K mg "InvalidTable" (ca K "InvalidTable") (fa_ K "InvalidTable") "ValueError" "ValueError.__new__" "ValueError.__init__" PySem.MEX.bmV
  f10 : PySem.MEX.EFn1 P K (ca K "InvalidTable") (fa_ K "InvalidTable") "value"
  e11 : PySem.MEX.ECls P K mg "InvalidMeasure" (ca K "InvalidMeasure") (fa_ K "InvalidMeasure") "ValueError" "ValueError.__new__" "ValueError.__init__" PySem.MEX.bmV
  f11 : PySem.MEX.EFn1 P K (ca K "InvalidMeasure") (fa_ K "InvalidMeasure") "value"
  e12 : PySem.MEX.ECls P K mg "InvalidLane" (ca K "InvalidLane") (fa_ K "InvalidLane") "ValueError" "ValueError.__new__" "ValueError.__init__" PySem.MEX.bmV
  f12 : PySem.MEX.EFn1 P K (ca K "InvalidLane") (fa_ K "InvalidLane") "field"
  e13 : PySem.MEX.ECls P K mg "InvalidState" (ca K "InvalidState") (fa_ K "InvalidState") "ValueError" "ValueError.__new__" "ValueError.__init__" PySem.MEX.bmV
  f13 : PySem.MEX.EFn1 P K (ca K "InvalidState") (fa_ K "InvalidState") "value"
  e14 : PySem.MEX.ECls P K mg "InvalidStep" (ca K "InvalidStep") (fa_ K "InvalidStep") "ValueError" "ValueError.__new__" "ValueError.__init__" PySem.MEX.bmV
  f14 : PySem.MEX.EFn1 P K (ca K "InvalidStep") (fa_ K "InvalidStep") "value"
  e15 : PySem.MEX.ECls P K mg "InvalidLine" (ca K "InvalidLine") (fa_ K "InvalidLine") "ValueError" "ValueError.__new__" "ValueError.__init__" PySem.MEX.bmV
  f15 : PySem.MEX.EFn1 P K (ca K "InvalidLine") (fa_ K "InvalidLine") "field"
  e16 : PySem.MEX.ECls P K mg "InvalidOffer" (ca K "InvalidOffer") (fa_ K "InvalidOffer") "ValueError" "ValueError.__new__" "ValueError.__init__" PySem.MEX.bmV
  f16 : PySem.MEX.EFn1 P K (ca K "InvalidOffer") (fa_ K "InvalidOffer") "number"
  e17 : PySem.MEX.ECls P K mg "InvalidWish" (ca K "InvalidWish") (fa_ K "InvalidWish") "ValueError" "ValueError.__new__" "ValueError.__init__" PySem.MEX.bmV
  f17 : PySem.MEX.EFn1 P K (ca K "InvalidWish") (fa_ K "InvalidWish") "number"
  e18 : PySem.MEX.ECls P K mg "InvalidQuestion" (ca K "InvalidQuestion") (fa_ K "InvalidQuestion") "ValueError" "ValueError.__new__" "ValueError.__init__" PySem.MEX.bmV
  f18 : PySem.MEX.EFn1 P K (ca K "InvalidQuestion") (fa_ K "InvalidQuestion") "word"
  e19 : PySem.MEX.ECls P K mg "InvalidCommand" (ca K "InvalidCommand") (fa_ K "InvalidCommand") "ValueError" "ValueError.__new__" "ValueError.__init__" PySem.MEX.bmV
  f19 : PySem.MEX.EFn1 P K (ca K "InvalidCommand") (fa_ K "InvalidCommand") "word"
  e20 : PySem.MEX.ECls P K mg "UnknownName" (ca K "UnknownName") (fa_ K "UnknownName") "LookupError" "LookupError.__new__" "LookupError.__init__" PySem.MEX.bmL
  f20 : PySem.MEX.EFn1 P K (ca K "UnknownName") (fa_ K "UnknownName") "value"
  e21 : PySem.MEX.ECls P K mg "TooLong" (ca K "TooLong") (fa_ K "TooLong") "OverflowError" "OverflowError.__new__" "OverflowError.__init__" PySem.MEX.bmO
  f21 : PySem.MEX.EFn1 P K (ca K "TooLong") (fa_ K "TooLong") "service"
  e22 : PySem.MEX.ECls P K mg "LimitExceeded" (ca K "LimitExceeded") (fa_ K "LimitExceeded") "OverflowError" "OverflowError.__new__" "OverflowError.__init__" PySem.MEX.bmO
  f22 : PySem.MEX.EFn1 P K (ca K "LimitExceeded") (fa_ K "LimitExceeded") "most"
  e23 : PySem.MEX.ECls P K mg "NothingToUndo" (ca K "NothingToUndo") (fa_ K "NothingToUndo") "RuntimeError" "RuntimeError.__new__" "RuntimeError.__init__" PySem.MEX.bmR
  f23 : PySem.MEX.EFn0 P K (ca K "NothingToUndo") (fa_ K "NothingToUndo")
  e24 : PySem.MEX.ECls P K mg "NothingToRedo" (ca K "NothingToRedo") (fa_ K "NothingToRedo") "RuntimeError" "RuntimeError.__new__" "RuntimeError.__init__" PySem.MEX.bmR
  f24 : PySem.MEX.EFn0 P K (ca K "NothingToRedo") (fa_ K "NothingToRedo")
  e25 : PySem.MEX.ECls P K mg "NoTrial" (ca K "NoTrial") (fa_ K "NoTrial") "RuntimeError" "RuntimeError.__new__" "RuntimeError.__init__" PySem.MEX.bmR
  f25 : PySem.MEX.EFn0 P K (ca K "NoTrial") (fa_ K "NoTrial")
  e26 : PySem.MEX.ECls P K mg "NoSystem" (ca K "NoSystem") (fa_ K "NoSystem") "RuntimeError" "RuntimeError.__new__" "RuntimeError.__init__" PySem.MEX.bmR
  f26 : PySem.MEX.EFn0 P K (ca K "NoSystem") (fa_ K "NoSystem")
  kit : ∀ i j, i < 27 → j < 27 → PySem.W.kitOne K (.ref (Cn K i)) (.ref (Cn K j)) = some (decide (j = i))
  bas : ∀ i j, i < 27 → j < 4 → PySem.W.kitOne K (.ref (Cn K i)) (.type (bass.getD j "")) = some (decide ((j : Int) = dues.getD i 0))
structure Blt (mg : Str → Option Value) : Prop where
  isinstance : mg "isinstance" = none
  int : mg "int" = none
  len : mg "len" = none
  range : mg "range" = none
  max : mg "max" = none
  min : mg "min" = none
  repr : mg "repr" = none
  enumerate : mg "enumerate" = none
  ValueError : mg "ValueError" = none
  LookupError : mg "LookupError" = none
  OverflowError : mg "OverflowError" = none
  RuntimeError : mg "RuntimeError" = none
theorem exc_of {P : Program} {K : PySem.W.Frag} {mg : Str → Option Value} {nm : Str} {C fI : Addr} {B newId initId : String} {bm : List Value} (T : PySem.MEX.ECls P K mg nm C fI B newId initId bm) : ExcC K C := ⟨T.ga, T.gg, T.exC, T.hdC, T.cl1, T.cl2, T.cl3, T.cl4⟩
theorem xf_of {P : Program} {K : PySem.W.Frag} {mg : Str → Option Value} {nm : Str} {C fI : Addr} {B newId initId : String} {bm : List Value} (T : PySem.MEX.ECls P K mg nm C fI B newId initId bm) : XfC K C := ⟨T.ga, T.gg, T.exC, T.hdC⟩
theorem EAll.exc {P : Program} {K : PySem.W.Frag} {mg : Str → Option Value} (E : EAll P K mg) : ∀ i, i < 27 → ExcC K (Cn K i) := by
  intro i hi
  match i, hi with
  | 0, _ => exact exc_of E.e0
  | 1, _ => exact exc_of E.e1
  | 2, _ => exact exc_of E.e2
  | 3, _ => exact exc_of E.e3
  | 4, _ => exact exc_of E.e4
  | 5, _ => exact exc_of E.e5
  | 6, _ => exact exc_of E.e6
  | 7, _ => exact exc_of E.e7
  | 8, _ => exact exc_of E.e8
  | 9, _ => exact exc_of E.e9
  | 10, _ => exact exc_of E.e10
  | 11, _ => exact exc_of E.e11
  | 12, _ => exact exc_of E.e12
  | 13, _ => exact exc_of E.e13
  | 14, _ => exact exc_of E.e14
  | 15, _ => exact exc_of E.e15
  | 16, _ => exact exc_of E.e16
  | 17, _ => exact exc_of E.e17
  | 18, _ => exact exc_of E.e18
  | 19, _ => exact exc_of E.e19
  | 20, _ => exact exc_of E.e20
  | 21, _ => exact exc_of E.e21
  | 22, _ => exact exc_of E.e22
  | 23, _ => exact exc_of E.e23
  | 24, _ => exact exc_of E.e24
  | 25, _ => exact exc_of E.e25
  | 26, _ => exact exc_of E.e26
  | n + 27, h => exact absurd h (by omega)
/-- errors one by one -/
def Errs (K : PySem.W.Frag) (H : Hp) (v : V) : Nat → List V → Prop
  | _, [] => True
  | i, w :: ws => IsErr H w (Cn K i) (fsOf v i) ∧ Errs K H v (i + 1) ws
theorem Errs.up {K : PySem.W.Frag} {H H' : Hp} {v : V} (s : Same H H') : ∀ {i : Nat} {ws : List V}, Errs K H v i ws → Errs K H' v i ws
  | _, [], _ => trivial
  | _, _ :: _, ⟨h, r⟩ => ⟨h.up s, Errs.up s r⟩
theorem Errs.app {K : PySem.W.Frag} {H : Hp} {v : V} : ∀ {i : Nat} {ws us : List V}, Errs K H v i ws → Errs K H v (i + ws.length) us → Errs K H v i (ws ++ us)
  | _, [], _, _, r => r
  | i, w :: ws, us, ⟨h, t⟩, r => ⟨h, Errs.app t (by rw [show i + 1 + ws.length = i + (w :: ws).length from by simp only [List.length_cons]; omega]; exact r)⟩
theorem Errs.at {K : PySem.W.Frag} {H : Hp} {v : V} : ∀ {i : Nat} {ws : List V} {j : Nat}, Errs K H v i ws → j < ws.length → ∃ w, ws[j]? = some w ∧ IsErr H w (Cn K (i + j)) (fsOf v (i + j))
  | _, [], _, _, h => by cases h
  | i, w :: ws, 0, ⟨h, _⟩, _ => ⟨w, rfl, h⟩
  | i, w :: ws, j + 1, ⟨_, r⟩, h => by
    obtain ⟨u, h1, h2⟩ := Errs.at (j := j) r (by simpa using h)
    exact ⟨u, by simpa using h1, by rw [show i + (j + 1) = i + 1 + j from by omega]; exact h2⟩
end K01
namespace K01
open PySem PySem.Spec PyProof.Rows L2
/-! ### the law's draws: a pool is a list of two ints -/
def IsPool (H : Hp) (p : Addr) : Prop := ∃ c z : Int, H p = some (.lst [.int c, .int z]) ∧ 0 ≤ z ∧ z < 2147483647
abbrev poolO (c z : Int) : HO := .lst [.int c, .int z]
def spPool (K : PySem.W.Frag) : Sp := fun vs H Q _ => ∃ (a : Addr) (ns : List Int) (k : Int), vs = [.ref a, .int k] ∧ SqL K H a (ns.map V.int) ∧ ns.length ≤ 1000 ∧ 0 ≤ k ∧ k ≤ 100 ∧ ∀ p c z, H p = none → 0 ≤ z → z < 2147483647 → Q (.ref p) (upd H p (poolO c z))
def spDraw : Sp := fun vs H Q _ => ∃ (p : Addr) (m : Int), vs = [.ref p, .int m] ∧ IsPool H p ∧ 0 < m ∧ m.natAbs < 2 ^ 500 ∧ ∀ d c z, 0 ≤ d → d < m → 0 ≤ z → z < 2147483647 → Q (.int d) (upd H p (poolO c z))
def spChoose (K : PySem.W.Frag) : Sp := fun vs H Q _ => ∃ (p l : Addr) (xs : List V), vs = [.ref p, .ref l] ∧ IsPool H p ∧ SqL K H l xs ∧ (∀ o, SqL K (upd H p o) l xs) ∧ xs ≠ [] ∧ xs.length ≤ 1000 ∧
  ∀ x c z, x ∈ xs → 0 ≤ z → z < 2147483647 → Q x (upd H p (poolO c z))
section
variable {P : Program} {w : World} {K : PySem.W.Frag} {mg : Str → Option Value} {base : Heap} {f g : Addr} {fd gd : FuncData} {CX : CXT}
theorem emod_lt {a m : Int} (h : 0 < m) : 0 ≤ a % m ∧ a % m < m := ⟨Int.emod_nonneg _ (by omega), Int.emod_lt_of_pos _ h⟩
theorem sc_law_pool : FnScope ["_law_script", "_law_k", "_law_cell", "_law_seed"] ["_law_script", "_law_k"] (defScope s_law_pool) := ⟨rfl, rfl, rfl, by decide +kernel, rfl, by decide +kernel, by decide +kernel⟩
theorem ok_law_pool (F : FnP K "_law_pool" s_law_pool f fd) (mlen : mg "len" = none) (mint : mg "int" = none) : FnOk P w K mg base CX0 1 f fd ["_law_script", "_law_k"] (spPool K) := by
  refine F.ok sc_law_pool (fun vs H Q E h => ?_) (fun cdv A outer s H vs Q E hr h => ?_)
  · obtain ⟨_, _, _, rfl, _⟩ := h
    rfl
  · obtain ⟨a, ns, k, rfl, hS, hlen, hk0, hk1, q⟩ := h
    refine ⟨_, (pss_cons (ps_set (i := 2) sc_law_pool.nd rfl (Or.inl rfl) pe_int)
      (pss_cons (ps_if (pt_cmpR op_lt (pv 1) (pe_callB call_len (by rfl) mlen (by decide +kernel) (pa_cons (pv 0) pa_nil)) (nomark _)) (pss_one (ps_set (i := 2) sc_law_pool.nd rfl (Or.inl rfl) (pe_ix ix_list (pv 0) (pv 1) (fun _ _ => rfl)))) pss_nil)
      (pss_cons (ps_set (i := 3) sc_law_pool.nd rfl (Or.inl rfl) (pe_op op_mod (pe_op op_pow (pe_op op_add (pe_op op_add (pe_op op_mod (pe_callTy call_int1 (by rfl) mint (by decide +kernel) (pa_cons (pv 2) pa_nil)) pe_int) (pe_op op_mul (pe_op op_mul pe_int (pv 1)) (pv 1))) pe_int) pe_int) pe_int))
      (pss_cons (ps_if (pt_cmpR op_lt (pv 2) (pe_op op_pow pe_int pe_int) (nomark _)) (pss_one (ps_set (i := 2) sc_law_pool.nd rfl (Or.inl rfl) pe_int)) pss_nil)
      (pss_one (ps_ret (pe_lst (pa_cons (pv 2) (pa_cons (pv 3) pa_nil))))))))), ?_⟩
    have hkk : 0 ≤ 7919 * k ∧ 7919 * k ≤ 791900 := by omega
    have hk2 : 0 ≤ 7919 * k * k ∧ 7919 * k * k ≤ 79190000 := by
      refine ⟨Int.mul_nonneg hkk.1 hk0, ?_⟩
      have z : 7919 * k * k ≤ 791900 * 100 := Int.mul_le_mul hkk.2 hk1 hk0 (by decide)
      omega
    refine ⟨_, rfl, _, rfl, _, (ns.map V.int).length, rfl, .inl ⟨_, hS, rfl⟩, _, _, rfl, rfl, _, rfl, ?_⟩
    have hb : ∀ cell : Int, (cell % 2147483629 + 7919 * k * k + 31).natAbs < 2 ^ 64 := fun cell => by
      have z := @emod_lt cell 2147483629 (by decide)
      omega
    by_cases hk : k < ((ns.map V.int).length : Int)
    · refine iteY hk ?_
      obtain ⟨i, rfl⟩ := Int.eq_ofNat_of_zero_le hk0
      have hi : i < ns.length := by rw [List.length_map] at hk; omega
      refine ⟨_, rfl, _, rfl, a, _, _, .int ns[i], rfl, rfl, hS, atI_nat (by simp [hi]), ?_⟩
      refine ⟨_, rfl, .inl ⟨_, rfl, _, _, rfl, rfl, (by decide : (0 : Int) < 2147483629), _, rfl, _, _, rfl, rfl, .inl ⟨by decide, by decide⟩, _, rfl, _, _, rfl, rfl, .inl ⟨by omega, by omega⟩, _, _, rfl, rfl, _, _, rfl, rfl, _, _, rfl, rfl, ⟨by decide, by decide, hb _⟩, _, _, rfl, rfl, (by decide : (0 : Int) < 2147483647), ?_⟩⟩
      refine ⟨_, rfl, _, _, rfl, rfl, ⟨by decide, by decide, by decide⟩, _, _, rfl, rfl, _, rfl, ?_⟩
      refine iteB (fun _ => ?_) (fun _ => ?_)
      · exact ⟨_, rfl, _, rfl, (by show 2 ≤ sizeLine; decide), fun p hp => q p _ _ hp (emod_lt (by decide)).1 (emod_lt (by decide)).2⟩
      · exact ⟨_, rfl, _, rfl, (by show 2 ≤ sizeLine; decide), fun p hp => q p _ _ hp (emod_lt (by decide)).1 (emod_lt (by decide)).2⟩
    · refine iteN hk ?_
      refine ⟨_, rfl, .inl ⟨_, rfl, _, _, rfl, rfl, (by decide : (0 : Int) < 2147483629), _, rfl, _, _, rfl, rfl, .inl ⟨by decide, by decide⟩, _, rfl, _, _, rfl, rfl, .inl ⟨by omega, by omega⟩, _, _, rfl, rfl, _, _, rfl, rfl, _, _, rfl, rfl, ⟨by decide, by decide, hb _⟩, _, _, rfl, rfl, (by decide : (0 : Int) < 2147483647), ?_⟩⟩
      refine ⟨_, rfl, _, _, rfl, rfl, ⟨by decide, by decide, by decide⟩, _, _, rfl, rfl, _, rfl, ?_⟩
      refine iteB (fun _ => ?_) (fun _ => ?_)
      · exact ⟨_, rfl, _, rfl, (by show 2 ≤ sizeLine; decide), fun p hp => q p _ _ hp (emod_lt (by decide)).1 (emod_lt (by decide)).2⟩
      · exact ⟨_, rfl, _, rfl, (by show 2 ≤ sizeLine; decide), fun p hp => q p _ _ hp (emod_lt (by decide)).1 (emod_lt (by decide)).2⟩
theorem sc_law_draw : FnScope ["_law_pool_here", "_law_many", "_law_digit"] ["_law_pool_here", "_law_many"] (defScope s_law_draw) := ⟨rfl, rfl, rfl, by decide +kernel, rfl, by decide +kernel, by decide +kernel⟩
theorem ok_law_draw (F : FnP K "_law_draw" s_law_draw f fd) (mint : mg "int" = none) : FnOk P w K mg base CX0 1 f fd ["_law_pool_here", "_law_many"] spDraw := by
  refine F.ok sc_law_draw (fun vs H Q E h => ?_) (fun cdv A outer s H vs Q E hr h => ?_)
  · obtain ⟨_, _, rfl, _⟩ := h
    rfl
  · obtain ⟨p, m, rfl, ⟨c, z, hp, hz0, hz1⟩, hm0, hm1, q⟩ := h
    refine ⟨_, (pss_cons (ps_if (pt_cmpR op_gt (pe_ix ix_list (pv 0) pe_int (fun _ _ => rfl)) pe_int (nomark _)) (pss_cons (ps_set (i := 2) sc_law_draw.nd rfl (Or.inl rfl) (pe_op op_mod (pe_callTy call_int1 (by rfl) mint (by decide +kernel) (pa_cons (pe_ix ix_list (pv 0) pe_int (fun _ _ => rfl)) pa_nil)) (pv 1)))
      (pss_cons (ps_asg (pe_op op_fdivW (pe_ix ix_list (pv 0) pe_int (fun _ _ => rfl)) (pv 1)) (pg_sub (pv 0) pe_int set_list))
      (pss_one (ps_ret (pv 2))))) pss_nil)
      (pss_cons (ps_asg (pe_op op_mod (pe_callTy call_int1 (by rfl) mint (by decide +kernel) (pa_cons (pe_op op_add (pe_op op_mul (pe_ix ix_list (pv 0) pe_int (fun _ _ => rfl)) pe_int) pe_int) pa_nil)) pe_int) (pg_sub (pv 0) pe_int set_list))
      (pss_one (ps_ret (pe_op op_mod (pe_op op_fdiv (pe_op op_mod (pe_callTy call_int1 (by rfl) mint (by decide +kernel) (pa_cons (pe_op op_mul (pe_ix ix_list (pv 0) pe_int (fun _ _ => rfl)) (pe_ix ix_list (pv 0) pe_int (fun _ _ => rfl))) pa_nil)) pe_int) pe_int) (pv 1)))))), ?_⟩
    refine ⟨_, rfl, p, _, 0, _, rfl, rfl, SqL.of hp, rfl, _, _, rfl, rfl, _, rfl, ?_⟩
    by_cases h0 : 0 < c
    · refine iteY h0 ?_
      refine ⟨_, rfl, p, _, 0, _, rfl, rfl, SqL.of hp, rfl, .inl ⟨c, rfl, _, rfl, _, _, rfl, rfl, hm0, ?_⟩⟩
      refine ⟨_, rfl, p, _, 0, _, rfl, rfl, SqL.of hp, rfl, _, rfl, _, _, rfl, rfl, wide_div hm0 hm1 (by decide) (by decide), _, rfl, p, _, 0, 0, rfl, rfl, hp, rfl, ?_⟩
      exact ⟨_, rfl, q (c % m) (c / m) z (emod_lt hm0).1 (emod_lt hm0).2 hz0 hz1⟩
    · refine iteN h0 ?_
      have hz := @emod_lt (z * 48271 + 11) 2147483647 (by decide)
      refine ⟨_, rfl, p, _, 1, _, rfl, rfl, SqL.of hp, rfl, _, _, rfl, rfl, .inl ⟨by omega, by omega⟩, _, _, rfl, rfl, .inl ⟨_, rfl, _, _, rfl, rfl, (by decide : (0 : Int) < 2147483647), _, rfl, p, _, 1, 1, rfl, rfl, hp, rfl, ?_⟩⟩
      refine ⟨_, rfl, p, _, 1, _, rfl, rfl, SqL.of upd_same, rfl, _, rfl, p, _, 1, _, rfl, rfl, SqL.of upd_same, rfl, _, _, rfl, rfl, .inl ⟨by omega, by omega⟩, .inl ⟨_, rfl, _, _, rfl, rfl, (by decide : (0 : Int) < 2147483629), _, _, rfl, rfl, ⟨by decide, by decide⟩, _, rfl, _, _, rfl, rfl, hm0, ?_⟩⟩
      exact q _ c ((z * 48271 + 11) % 2147483647) (emod_lt hm0).1 (emod_lt hm0).2 hz.1 hz.2
theorem sc_law_choose : FnScope ["_law_pool_here", "_law_items"] ["_law_pool_here", "_law_items"] (defScope s_law_choose) := ⟨rfl, rfl, rfl, by decide +kernel, rfl, by decide +kernel, by decide +kernel⟩
theorem ok_law_choose (F : FnP K "_law_choose" s_law_choose f fd) {gD : Addr} {eD : FuncData} (GD : FnP K "_law_draw" s_law_draw gD eD) (mD : mg "_law_draw" = some (.ref gD)) (mlen : mg "len" = none) (mint : mg "int" = none) : FnOk P w K mg base CX0 2 f fd ["_law_pool_here", "_law_items"] (spChoose K) := by
  have bD : Binds K eD ["_law_pool_here", "_law_many"] [] := GD.bindsN fun _ _ _ _ _ _ us hl => match us, hl with | [_, _], _ => rfl
  have FD : FnOk P w K mg base CX0 1 gD eD ["_law_pool_here", "_law_many"] spDraw := ok_law_draw GD mint
  refine F.ok sc_law_choose (fun vs H Q E h => ?_) (fun cdv A outer s H vs Q E hr h => ?_)
  · obtain ⟨_, _, _, rfl, _⟩ := h
    rfl
  · obtain ⟨p, l, xs, rfl, hp, hl, hl2, hne, hlen, q⟩ := h
    refine ⟨_, (pss_one (ps_ret (pe_ix ix_list (pv 1) (pe_call FD hr rfl mD GD.kp bD .nil pass0 (pa_cons (pv 0) (pa_cons (pe_callB call_len (by rfl) mlen (by decide +kernel) (pa_cons (pv 1) pa_nil)) pa_nil))) (fun _ _ => rfl)))), ?_⟩
    have hpos : 0 < xs.length := List.length_pos_iff.mpr hne
    refine ⟨_, rfl, _, rfl, _, rfl, _, xs.length, rfl, .inl ⟨_, hl, rfl⟩, p, xs.length, rfl, hp, by omega, Nat.lt_of_le_of_lt (show ((xs.length : Int)).natAbs ≤ 1000 by omega) (by decide), fun d c z hd0 hd1 hz0 hz1 => ?_⟩
    obtain ⟨i, rfl⟩ := Int.eq_ofNat_of_zero_le hd0
    have hi : i < xs.length := by omega
    exact ⟨l, xs, _, xs[i], rfl, rfl, hl2 _, atI_nat (by simp [hi]), q _ c z (List.getElem_mem hi) hz0 hz1⟩
end
end K01
namespace K01
open PySem PySem.Spec PyProof.Rows L2
def spMade (K : PySem.W.Frag) : Sp := fun vs H Q _ => ∃ v : V, vs = [v] ∧ ∀ r ws H', Same H H' → H' r = some (.lst ws) → ws.length = 27 → Errs K H' v 0 ws → Q (.ref r) H'
section
variable {P : Program} {w : World} {K : PySem.W.Frag} {mg : Str → Option Value} {base : Heap} {f g : Addr} {fd gd : FuncData} {CX : CXT}
theorem sc_law_made : FnScope ["_law_held", "_law_found"] ["_law_held"] (defScope s_law_made) := ⟨rfl, rfl, rfl, by decide +kernel, rfl, by decide +kernel, by decide +kernel⟩
theorem ok_law_made (F : FnP K "_law_made" s_law_made f fd) (E : EAll P K mg) : FnOk P w K mg base CX0 2 f fd ["_law_held"] (spMade K) := by
  refine F.ok sc_law_made (fun vs H Q E h => ?_) (fun cdv A outer s H vs Q Ex hr h => ?_)
  · obtain ⟨_, rfl, _⟩ := h
    rfl
  · obtain ⟨v, rfl, q⟩ := h
    refine ⟨_, (pss_cons (ps_set (i := 1) sc_law_made.nd rfl (Or.inl rfl) (pe_lst (pa_cons (pe_mkE (makes1 E.e0 E.f0 hr) E.e0.kC rfl E.e0.gC (pa_cons (pv 0) pa_nil)) (pa_cons (pe_mkE (makes1 E.e1 E.f1 hr) E.e1.kC rfl E.e1.gC (pa_cons (pv 0) pa_nil)) (pa_cons (pe_mkE (makes1 E.e2 E.f2 hr) E.e2.kC rfl E.e2.gC (pa_cons (pv 0) pa_nil)) (pa_cons (pe_mkE (makes1 E.e3 E.f3 hr) E.e3.kC rfl E.e3.gC (pa_cons (pv 0) pa_nil)) (pa_cons (pe_mkE (makes2 E.e4 E.f4 hr) E.e4.kC rfl E.e4.gC (pa_cons (pv 0) (pa_cons pe_str pa_nil))) pa_nil)))))))
      (pss_cons (ps_set (i := 1) sc_law_made.nd rfl (Or.inl rfl) (pe_op op_cat (pv 1) (pe_lst (pa_cons (pe_mkE (makes1 E.e5 E.f5 hr) E.e5.kC rfl E.e5.gC (pa_cons (pv 0) pa_nil)) (pa_cons (pe_mkE (makes1 E.e6 E.f6 hr) E.e6.kC rfl E.e6.gC (pa_cons (pv 0) pa_nil)) (pa_cons (pe_mkE (makes1 E.e7 E.f7 hr) E.e7.kC rfl E.e7.gC (pa_cons (pv 0) pa_nil)) (pa_cons (pe_mkE (makes1 E.e8 E.f8 hr) E.e8.kC rfl E.e8.gC (pa_cons (pv 0) pa_nil)) (pa_cons (pe_mkE (makes1 E.e9 E.f9 hr) E.e9.kC rfl E.e9.gC (pa_cons (pv 0) pa_nil)) pa_nil))))))))
      (pss_cons (ps_set (i := 1) sc_law_made.nd rfl (Or.inl rfl) (pe_op op_cat (pv 1) (pe_lst (pa_cons (pe_mkE (makes1 E.e10 E.f10 hr) E.e10.kC rfl E.e10.gC (pa_cons (pv 0) pa_nil)) (pa_cons (pe_mkE (makes1 E.e11 E.f11 hr) E.e11.kC rfl E.e11.gC (pa_cons (pv 0) pa_nil)) (pa_cons (pe_mkE (makes1 E.e12 E.f12 hr) E.e12.kC rfl E.e12.gC (pa_cons (pv 0) pa_nil)) (pa_cons (pe_mkE (makes1 E.e13 E.f13 hr) E.e13.kC rfl E.e13.gC (pa_cons (pv 0) pa_nil)) (pa_cons (pe_mkE (makes1 E.e14 E.f14 hr) E.e14.kC rfl E.e14.gC (pa_cons (pv 0) pa_nil)) pa_nil))))))))
      (pss_cons (ps_set (i := 1) sc_law_made.nd rfl (Or.inl rfl) (pe_op op_cat (pv 1) (pe_lst (pa_cons (pe_mkE (makes1 E.e15 E.f15 hr) E.e15.kC rfl E.e15.gC (pa_cons (pv 0) pa_nil)) (pa_cons (pe_mkE (makes1 E.e16 E.f16 hr) E.e16.kC rfl E.e16.gC (pa_cons (pv 0) pa_nil)) (pa_cons (pe_mkE (makes1 E.e17 E.f17 hr) E.e17.kC rfl E.e17.gC (pa_cons (pv 0) pa_nil)) (pa_cons (pe_mkE (makes1 E.e18 E.f18 hr) E.e18.kC rfl E.e18.gC (pa_cons (pv 0) pa_nil)) (pa_cons (pe_mkE (makes1 E.e19 E.f19 hr) E.e19.kC rfl E.e19.gC (pa_cons (pv 0) pa_nil)) pa_nil))))))))
      (pss_cons (ps_set (i := 1) sc_law_made.nd rfl (Or.inl rfl) (pe_op op_cat (pv 1) (pe_lst (pa_cons (pe_mkE (makes1 E.e20 E.f20 hr) E.e20.kC rfl E.e20.gC (pa_cons (pv 0) pa_nil)) (pa_cons (pe_mkE (makes1 E.e21 E.f21 hr) E.e21.kC rfl E.e21.gC (pa_cons (pv 0) pa_nil)) (pa_cons (pe_mkE (makes1 E.e22 E.f22 hr) E.e22.kC rfl E.e22.gC (pa_cons (pv 0) pa_nil)) (pa_cons (pe_mkE0 (makes0 E.e23 E.f23 hr) E.e23.kC rfl E.e23.gC) (pa_cons (pe_mkE0 (makes0 E.e24 E.f24 hr) E.e24.kC rfl E.e24.gC) pa_nil))))))))
      (pss_cons (ps_set (i := 1) sc_law_made.nd rfl (Or.inl rfl) (pe_op op_cat (pv 1) (pe_lst (pa_cons (pe_mkE0 (makes0 E.e25 E.f25 hr) E.e25.kC rfl E.e25.gC) (pa_cons (pe_mkE0 (makes0 E.e26 E.f26 hr) E.e26.kC rfl E.e26.gC) pa_nil)))))
      (pss_one (ps_ret (pv 1))))))))), ?_⟩
    refine ⟨_, rfl, rfl, fun w0 H0 s0 e0 => ⟨_, rfl, rfl, fun w1 H1 s1 e1 => ⟨_, rfl, rfl, fun w2 H2 s2 e2 => ⟨_, rfl, rfl, fun w3 H3 s3 e3 => ⟨_, rfl, rfl, fun w4 H4 s4 e4 => ⟨(by show 5 ≤ sizeLine; decide), fun l0 hl0 => ?_⟩⟩⟩⟩⟩⟩
    have t0_4 := Same.new' (o := .lst [w0, w1, w2, w3, w4]) hl0
    have t0_3 := s4.trans t0_4
    have t0_2 := s3.trans t0_3
    have t0_1 := s2.trans t0_2
    have t0_0 := s1.trans t0_1
    have S0 := s0.trans t0_0
    have R0_ : Errs K (upd H4 l0 (.lst [w0, w1, w2, w3, w4])) v 0 [w0, w1, w2, w3, w4] := ⟨e0.up t0_0, e1.up t0_1, e2.up t0_2, e3.up t0_3, e4.up t0_4, trivial⟩
    have R0 := R0_
    have A0 : (upd H4 l0 (.lst [w0, w1, w2, w3, w4])) l0 = some (.lst [w0, w1, w2, w3, w4]) := upd_same
    generalize upd H4 l0 (.lst [w0, w1, w2, w3, w4]) = G0 at S0 R0 A0 ⊢
    try clear R0_
    refine ⟨_, rfl, _, rfl, rfl, fun w5 H5 s5 e5 => ⟨_, rfl, rfl, fun w6 H6 s6 e6 => ⟨_, rfl, rfl, fun w7 H7 s7 e7 => ⟨_, rfl, rfl, fun w8 H8 s8 e8 => ⟨_, rfl, rfl, fun w9 H9 s9 e9 => ⟨(by show 5 ≤ sizeLine; decide), fun m1 hm1 => ⟨l0, m1, _, _, rfl, rfl, (s5.trans (s6.trans (s7.trans (s8.trans (s9.trans (Same.new' hm1)))))) _ _ A0, upd_same, (by show 5 + 5 ≤ sizeLine; decide), fun l1 hl1 => ?_⟩⟩⟩⟩⟩⟩⟩
    have t1_9 := (Same.new' (o := .lst [w5, w6, w7, w8, w9]) hm1).trans (Same.new' (o := .lst ([w0, w1, w2, w3, w4] ++ [w5, w6, w7, w8, w9])) hl1)
    have t1_8 := s9.trans t1_9
    have t1_7 := s8.trans t1_8
    have t1_6 := s7.trans t1_7
    have t1_5 := s6.trans t1_6
    have S1 := S0.trans (s5.trans t1_5)
    have R1_ : Errs K (upd (upd H9 m1 (.lst [w5, w6, w7, w8, w9])) l1 (.lst ([w0, w1, w2, w3, w4] ++ [w5, w6, w7, w8, w9]))) v 5 [w5, w6, w7, w8, w9] := ⟨e5.up t1_5, e6.up t1_6, e7.up t1_7, e8.up t1_8, e9.up t1_9, trivial⟩
    have R1 : Errs K (upd (upd H9 m1 (.lst [w5, w6, w7, w8, w9])) l1 (.lst ([w0, w1, w2, w3, w4] ++ [w5, w6, w7, w8, w9]))) v 0 ([w0, w1, w2, w3, w4] ++ [w5, w6, w7, w8, w9]) := Errs.app (Errs.up (s5.trans t1_5) R0) R1_
    have A1 : (upd (upd H9 m1 (.lst [w5, w6, w7, w8, w9])) l1 (.lst ([w0, w1, w2, w3, w4] ++ [w5, w6, w7, w8, w9]))) l1 = some (.lst ([w0, w1, w2, w3, w4] ++ [w5, w6, w7, w8, w9])) := upd_same
    generalize upd (upd H9 m1 (.lst [w5, w6, w7, w8, w9])) l1 (.lst ([w0, w1, w2, w3, w4] ++ [w5, w6, w7, w8, w9])) = G1 at S1 R1 A1 ⊢
    refine ⟨_, rfl, _, rfl, rfl, fun w10 H10 s10 e10 => ⟨_, rfl, rfl, fun w11 H11 s11 e11 => ⟨_, rfl, rfl, fun w12 H12 s12 e12 => ⟨_, rfl, rfl, fun w13 H13 s13 e13 => ⟨_, rfl, rfl, fun w14 H14 s14 e14 => ⟨(by show 5 ≤ sizeLine; decide), fun m2 hm2 => ⟨l1, m2, _, _, rfl, rfl, (s10.trans (s11.trans (s12.trans (s13.trans (s14.trans (Same.new' hm2)))))) _ _ A1, upd_same, (by show 10 + 5 ≤ sizeLine; decide), fun l2 hl2 => ?_⟩⟩⟩⟩⟩⟩⟩
    have t2_14 := (Same.new' (o := .lst [w10, w11, w12, w13, w14]) hm2).trans (Same.new' (o := .lst (([w0, w1, w2, w3, w4] ++ [w5, w6, w7, w8, w9]) ++ [w10, w11, w12, w13, w14])) hl2)
    have t2_13 := s14.trans t2_14
    have t2_12 := s13.trans t2_13
    have t2_11 := s12.trans t2_12
    have t2_10 := s11.trans t2_11
    have S2 := S1.trans (s10.trans t2_10)
    have R2_ : Errs K (upd (upd H14 m2 (.lst [w10, w11, w12, w13, w14])) l2 (.lst (([w0, w1, w2, w3, w4] ++ [w5, w6, w7, w8, w9]) ++ [w10, w11, w12, w13, w14]))) v 10 [w10, w11, w12, w13, w14] := ⟨e10.up t2_10, e11.up t2_11, e12.up t2_12, e13.up t2_13, e14.up t2_14, trivial⟩
    have R2 : Errs K (upd (upd H14 m2 (.lst [w10, w11, w12, w13, w14])) l2 (.lst (([w0, w1, w2, w3, w4] ++ [w5, w6, w7, w8, w9]) ++ [w10, w11, w12, w13, w14]))) v 0 (([w0, w1, w2, w3, w4] ++ [w5, w6, w7, w8, w9]) ++ [w10, w11, w12, w13, w14]) := Errs.app (Errs.up (s10.trans t2_10) R1) R2_
    have A2 : (upd (upd H14 m2 (.lst [w10, w11, w12, w13, w14])) l2 (.lst (([w0, w1, w2, w3, w4] ++ [w5, w6, w7, w8, w9]) ++ [w10, w11, w12, w13, w14]))) l2 = some (.lst (([w0, w1, w2, w3, w4] ++ [w5, w6, w7, w8, w9]) ++ [w10, w11, w12, w13, w14])) := upd_same
    generalize upd (upd H14 m2 (.lst [w10, w11, w12, w13, w14])) l2 (.lst (([w0, w1, w2, w3, w4] ++ [w5, w6, w7, w8, w9]) ++ [w10, w11, w12, w13, w14])) = G2 at S2 R2 A2 ⊢
    refine ⟨_, rfl, _, rfl, rfl, fun w15 H15 s15 e15 => ⟨_, rfl, rfl, fun w16 H16 s16 e16 => ⟨_, rfl, rfl, fun w17 H17 s17 e17 => ⟨_, rfl, rfl, fun w18 H18 s18 e18 => ⟨_, rfl, rfl, fun w19 H19 s19 e19 => ⟨(by show 5 ≤ sizeLine; decide), fun m3 hm3 => ⟨l2, m3, _, _, rfl, rfl, (s15.trans (s16.trans (s17.trans (s18.trans (s19.trans (Same.new' hm3)))))) _ _ A2, upd_same, (by show 15 + 5 ≤ sizeLine; decide), fun l3 hl3 => ?_⟩⟩⟩⟩⟩⟩⟩
    have t3_19 := (Same.new' (o := .lst [w15, w16, w17, w18, w19]) hm3).trans (Same.new' (o := .lst ((([w0, w1, w2, w3, w4] ++ [w5, w6, w7, w8, w9]) ++ [w10, w11, w12, w13, w14]) ++ [w15, w16, w17, w18, w19])) hl3)
    have t3_18 := s19.trans t3_19
    have t3_17 := s18.trans t3_18
    have t3_16 := s17.trans t3_17
    have t3_15 := s16.trans t3_16
    have S3 := S2.trans (s15.trans t3_15)
    have R3_ : Errs K (upd (upd H19 m3 (.lst [w15, w16, w17, w18, w19])) l3 (.lst ((([w0, w1, w2, w3, w4] ++ [w5, w6, w7, w8, w9]) ++ [w10, w11, w12, w13, w14]) ++ [w15, w16, w17, w18, w19]))) v 15 [w15, w16, w17, w18, w19] := ⟨e15.up t3_15, e16.up t3_16, e17.up t3_17, e18.up t3_18, e19.up t3_19, trivial⟩
    have R3 : Errs K (upd (upd H19 m3 (.lst [w15, w16, w17, w18, w19])) l3 (.lst ((([w0, w1, w2, w3, w4] ++ [w5, w6, w7, w8, w9]) ++ [w10, w11, w12, w13, w14]) ++ [w15, w16, w17, w18, w19]))) v 0 ((([w0, w1, w2, w3, w4] ++ [w5, w6, w7, w8, w9]) ++ [w10, w11, w12, w13, w14]) ++ [w15, w16, w17, w18, w19]) := Errs.app (Errs.up (s15.trans t3_15) R2) R3_
    have A3 : (upd (upd H19 m3 (.lst [w15, w16, w17, w18, w19])) l3 (.lst ((([w0, w1, w2, w3, w4] ++ [w5, w6, w7, w8, w9]) ++ [w10, w11, w12, w13, w14]) ++ [w15, w16, w17, w18, w19]))) l3 = some (.lst ((([w0, w1, w2, w3, w4] ++ [w5, w6, w7, w8, w9]) ++ [w10, w11, w12, w13, w14]) ++ [w15, w16, w17, w18, w19])) := upd_same
    generalize upd (upd H19 m3 (.lst [w15, w16, w17, w18, w19])) l3 (.lst ((([w0, w1, w2, w3, w4] ++ [w5, w6, w7, w8, w9]) ++ [w10, w11, w12, w13, w14]) ++ [w15, w16, w17, w18, w19])) = G3 at S3 R3 A3 ⊢
    refine ⟨_, rfl, _, rfl, rfl, fun w20 H20 s20 e20 => ⟨_, rfl, rfl, fun w21 H21 s21 e21 => ⟨_, rfl, rfl, fun w22 H22 s22 e22 => ⟨rfl, fun w23 H23 s23 e23 => ⟨rfl, fun w24 H24 s24 e24 => ⟨(by show 5 ≤ sizeLine; decide), fun m4 hm4 => ⟨l3, m4, _, _, rfl, rfl, (s20.trans (s21.trans (s22.trans (s23.trans (s24.trans (Same.new' hm4)))))) _ _ A3, upd_same, (by show 20 + 5 ≤ sizeLine; decide), fun l4 hl4 => ?_⟩⟩⟩⟩⟩⟩⟩
    have t4_24 := (Same.new' (o := .lst [w20, w21, w22, w23, w24]) hm4).trans (Same.new' (o := .lst (((([w0, w1, w2, w3, w4] ++ [w5, w6, w7, w8, w9]) ++ [w10, w11, w12, w13, w14]) ++ [w15, w16, w17, w18, w19]) ++ [w20, w21, w22, w23, w24])) hl4)
    have t4_23 := s24.trans t4_24
    have t4_22 := s23.trans t4_23
    have t4_21 := s22.trans t4_22
    have t4_20 := s21.trans t4_21
    have S4 := S3.trans (s20.trans t4_20)
    have R4_ : Errs K (upd (upd H24 m4 (.lst [w20, w21, w22, w23, w24])) l4 (.lst (((([w0, w1, w2, w3, w4] ++ [w5, w6, w7, w8, w9]) ++ [w10, w11, w12, w13, w14]) ++ [w15, w16, w17, w18, w19]) ++ [w20, w21, w22, w23, w24]))) v 20 [w20, w21, w22, w23, w24] := ⟨e20.up t4_20, e21.up t4_21, e22.up t4_22, e23.up t4_23, e24.up t4_24, trivial⟩
    have R4 : Errs K (upd (upd H24 m4 (.lst [w20, w21, w22, w23, w24])) l4 (.lst (((([w0, w1, w2, w3, w4] ++ [w5, w6, w7, w8, w9]) ++ [w10, w11, w12, w13, w14]) ++ [w15, w16, w17, w18, w19]) ++ [w20, w21, w22, w23, w24]))) v 0 (((([w0, w1, w2, w3, w4] ++ [w5, w6, w7, w8, w9]) ++ [w10, w11, w12, w13, w14]) ++ [w15, w16, w17, w18, w19]) ++ [w20, w21, w22, w23, w24]) := Errs.app (Errs.up (s20.trans t4_20) R3) R4_
    have A4 : (upd (upd H24 m4 (.lst [w20, w21, w22, w23, w24])) l4 (.lst (((([w0, w1, w2, w3, w4] ++ [w5, w6, w7, w8, w9]) ++ [w10, w11, w12, w13, w14]) ++ [w15, w16, w17, w18, w19]) ++ [w20, w21, w22, w23, w24]))) l4 = some (.lst (((([w0, w1, w2, w3, w4] ++ [w5, w6, w7, w8, w9]) ++ [w10, w11, w12, w13, w14]) ++ [w15, w16, w17, w18, w19]) ++ [w20, w21, w22, w23, w24])) := upd_same
    generalize upd (upd H24 m4 (.lst [w20, w21, w22, w23, w24])) l4 (.lst (((([w0, w1, w2, w3, w4] ++ [w5, w6, w7, w8, w9]) ++ [w10, w11, w12, w13, w14]) ++ [w15, w16, w17, w18, w19]) ++ [w20, w21, w22, w23, w24])) = G4 at S4 R4 A4 ⊢
    refine ⟨_, rfl, rfl, fun w25 H25 s25 e25 => ⟨rfl, fun w26 H26 s26 e26 => ⟨(by show 2 ≤ sizeLine; decide), fun m5 hm5 => ⟨l4, m5, _, _, rfl, rfl, (s25.trans (s26.trans (Same.new' hm5))) _ _ A4, upd_same, (by show 25 + 2 ≤ sizeLine; decide), fun l5 hl5 => ?_⟩⟩⟩⟩
    have t5_26 := (Same.new' (o := .lst [w25, w26]) hm5).trans (Same.new' (o := .lst ((((([w0, w1, w2, w3, w4] ++ [w5, w6, w7, w8, w9]) ++ [w10, w11, w12, w13, w14]) ++ [w15, w16, w17, w18, w19]) ++ [w20, w21, w22, w23, w24]) ++ [w25, w26])) hl5)
    have t5_25 := s26.trans t5_26
    have S5 := S4.trans (s25.trans t5_25)
    have R5_ : Errs K (upd (upd H26 m5 (.lst [w25, w26])) l5 (.lst ((((([w0, w1, w2, w3, w4] ++ [w5, w6, w7, w8, w9]) ++ [w10, w11, w12, w13, w14]) ++ [w15, w16, w17, w18, w19]) ++ [w20, w21, w22, w23, w24]) ++ [w25, w26]))) v 25 [w25, w26] := ⟨e25.up t5_25, e26.up t5_26, trivial⟩
    have R5 : Errs K (upd (upd H26 m5 (.lst [w25, w26])) l5 (.lst ((((([w0, w1, w2, w3, w4] ++ [w5, w6, w7, w8, w9]) ++ [w10, w11, w12, w13, w14]) ++ [w15, w16, w17, w18, w19]) ++ [w20, w21, w22, w23, w24]) ++ [w25, w26]))) v 0 ((((([w0, w1, w2, w3, w4] ++ [w5, w6, w7, w8, w9]) ++ [w10, w11, w12, w13, w14]) ++ [w15, w16, w17, w18, w19]) ++ [w20, w21, w22, w23, w24]) ++ [w25, w26]) := Errs.app (Errs.up (s25.trans t5_25) R4) R5_
    have A5 : (upd (upd H26 m5 (.lst [w25, w26])) l5 (.lst ((((([w0, w1, w2, w3, w4] ++ [w5, w6, w7, w8, w9]) ++ [w10, w11, w12, w13, w14]) ++ [w15, w16, w17, w18, w19]) ++ [w20, w21, w22, w23, w24]) ++ [w25, w26]))) l5 = some (.lst ((((([w0, w1, w2, w3, w4] ++ [w5, w6, w7, w8, w9]) ++ [w10, w11, w12, w13, w14]) ++ [w15, w16, w17, w18, w19]) ++ [w20, w21, w22, w23, w24]) ++ [w25, w26])) := upd_same
    generalize upd (upd H26 m5 (.lst [w25, w26])) l5 (.lst ((((([w0, w1, w2, w3, w4] ++ [w5, w6, w7, w8, w9]) ++ [w10, w11, w12, w13, w14]) ++ [w15, w16, w17, w18, w19]) ++ [w20, w21, w22, w23, w24]) ++ [w25, w26])) = G5 at S5 R5 A5 ⊢
    exact ⟨_, rfl, q l5 _ G5 S5 A5 rfl R5⟩
theorem sc_law_named : FnScope ["_law_held", "_law_found"] ["_law_held"] (defScope s_law_named) := ⟨rfl, rfl, rfl, by decide +kernel, rfl, by decide +kernel, by decide +kernel⟩
theorem ok_law_named (F : FnP K "_law_named" s_law_named f fd) (E : EAll P K mg) : FnOk P w K mg base CX0 2 f fd ["_law_held"] (spMade K) := by
  refine F.ok sc_law_named (fun vs H Q E h => ?_) (fun cdv A outer s H vs Q Ex hr h => ?_)
  · obtain ⟨_, rfl, _⟩ := h
    rfl
  · obtain ⟨v, rfl, q⟩ := h
    refine ⟨_, (pss_cons (ps_set (i := 1) sc_law_named.nd rfl (Or.inl rfl) (pe_lst (pa_cons (pe_mkEK (ks := ["value"]) (makes1k E.e0 E.f0 hr) E.e0.kC rfl E.e0.gC (pk_cons (pv 0) pk_nil)) (pa_cons (pe_mkEK (ks := ["field"]) (makes1k E.e1 E.f1 hr) E.e1.kC rfl E.e1.gC (pk_cons (pv 0) pk_nil)) (pa_cons (pe_mkEK (ks := ["number"]) (makes1k E.e2 E.f2 hr) E.e2.kC rfl E.e2.gC (pk_cons (pv 0) pk_nil)) (pa_cons (pe_mkEK (ks := ["number"]) (makes1k E.e3 E.f3 hr) E.e3.kC rfl E.e3.gC (pk_cons (pv 0) pk_nil)) (pa_cons (pe_mkEK (ks := ["place", "service"]) (makes2k E.e4 E.f4 hr) E.e4.kC rfl E.e4.gC (pk_cons pe_str (pk_cons (pv 0) pk_nil))) pa_nil)))))))
      (pss_cons (ps_set (i := 1) sc_law_named.nd rfl (Or.inl rfl) (pe_op op_cat (pv 1) (pe_lst (pa_cons (pe_mkEK (ks := ["line"]) (makes1k E.e5 E.f5 hr) E.e5.kC rfl E.e5.gC (pk_cons (pv 0) pk_nil)) (pa_cons (pe_mkEK (ks := ["value"]) (makes1k E.e6 E.f6 hr) E.e6.kC rfl E.e6.gC (pk_cons (pv 0) pk_nil)) (pa_cons (pe_mkEK (ks := ["path"]) (makes1k E.e7 E.f7 hr) E.e7.kC rfl E.e7.gC (pk_cons (pv 0) pk_nil)) (pa_cons (pe_mkEK (ks := ["value"]) (makes1k E.e8 E.f8 hr) E.e8.kC rfl E.e8.gC (pk_cons (pv 0) pk_nil)) (pa_cons (pe_mkEK (ks := ["value"]) (makes1k E.e9 E.f9 hr) E.e9.kC rfl E.e9.gC (pk_cons (pv 0) pk_nil)) pa_nil))))))))
      (pss_cons (ps_set (i := 1) sc_law_named.nd rfl (Or.inl rfl) (pe_op op_cat (pv 1) (pe_lst (pa_cons (pe_mkEK (ks := ["value"]) (makes1k E.e10 E.f10 hr) E.e10.kC rfl E.e10.gC (pk_cons (pv 0) pk_nil)) (pa_cons (pe_mkEK (ks := ["value"]) (makes1k E.e11 E.f11 hr) E.e11.kC rfl E.e11.gC (pk_cons (pv 0) pk_nil)) (pa_cons (pe_mkEK (ks := ["field"]) (makes1k E.e12 E.f12 hr) E.e12.kC rfl E.e12.gC (pk_cons (pv 0) pk_nil)) (pa_cons (pe_mkEK (ks := ["value"]) (makes1k E.e13 E.f13 hr) E.e13.kC rfl E.e13.gC (pk_cons (pv 0) pk_nil)) (pa_cons (pe_mkEK (ks := ["value"]) (makes1k E.e14 E.f14 hr) E.e14.kC rfl E.e14.gC (pk_cons (pv 0) pk_nil)) pa_nil))))))))
      (pss_cons (ps_set (i := 1) sc_law_named.nd rfl (Or.inl rfl) (pe_op op_cat (pv 1) (pe_lst (pa_cons (pe_mkEK (ks := ["field"]) (makes1k E.e15 E.f15 hr) E.e15.kC rfl E.e15.gC (pk_cons (pv 0) pk_nil)) (pa_cons (pe_mkEK (ks := ["number"]) (makes1k E.e16 E.f16 hr) E.e16.kC rfl E.e16.gC (pk_cons (pv 0) pk_nil)) (pa_cons (pe_mkEK (ks := ["number"]) (makes1k E.e17 E.f17 hr) E.e17.kC rfl E.e17.gC (pk_cons (pv 0) pk_nil)) (pa_cons (pe_mkEK (ks := ["word"]) (makes1k E.e18 E.f18 hr) E.e18.kC rfl E.e18.gC (pk_cons (pv 0) pk_nil)) (pa_cons (pe_mkEK (ks := ["word"]) (makes1k E.e19 E.f19 hr) E.e19.kC rfl E.e19.gC (pk_cons (pv 0) pk_nil)) pa_nil))))))))
      (pss_cons (ps_set (i := 1) sc_law_named.nd rfl (Or.inl rfl) (pe_op op_cat (pv 1) (pe_lst (pa_cons (pe_mkEK (ks := ["value"]) (makes1k E.e20 E.f20 hr) E.e20.kC rfl E.e20.gC (pk_cons (pv 0) pk_nil)) (pa_cons (pe_mkEK (ks := ["service"]) (makes1k E.e21 E.f21 hr) E.e21.kC rfl E.e21.gC (pk_cons (pv 0) pk_nil)) (pa_cons (pe_mkEK (ks := ["most"]) (makes1k E.e22 E.f22 hr) E.e22.kC rfl E.e22.gC (pk_cons (pv 0) pk_nil)) (pa_cons (pe_mkE0 (makes0 E.e23 E.f23 hr) E.e23.kC rfl E.e23.gC) (pa_cons (pe_mkE0 (makes0 E.e24 E.f24 hr) E.e24.kC rfl E.e24.gC) pa_nil))))))))
      (pss_cons (ps_set (i := 1) sc_law_named.nd rfl (Or.inl rfl) (pe_op op_cat (pv 1) (pe_lst (pa_cons (pe_mkE0 (makes0 E.e25 E.f25 hr) E.e25.kC rfl E.e25.gC) (pa_cons (pe_mkE0 (makes0 E.e26 E.f26 hr) E.e26.kC rfl E.e26.gC) pa_nil)))))
      (pss_one (ps_ret (pv 1))))))))), ?_⟩
    refine ⟨_, rfl, rfl, fun w0 H0 s0 e0 => ⟨_, rfl, rfl, fun w1 H1 s1 e1 => ⟨_, rfl, rfl, fun w2 H2 s2 e2 => ⟨_, rfl, rfl, fun w3 H3 s3 e3 => ⟨_, rfl, rfl, fun w4 H4 s4 e4 => ⟨(by show 5 ≤ sizeLine; decide), fun l0 hl0 => ?_⟩⟩⟩⟩⟩⟩
    have t0_4 := Same.new' (o := .lst [w0, w1, w2, w3, w4]) hl0
    have t0_3 := s4.trans t0_4
    have t0_2 := s3.trans t0_3
    have t0_1 := s2.trans t0_2
    have t0_0 := s1.trans t0_1
    have S0 := s0.trans t0_0
    have R0_ : Errs K (upd H4 l0 (.lst [w0, w1, w2, w3, w4])) v 0 [w0, w1, w2, w3, w4] := ⟨e0.up t0_0, e1.up t0_1, e2.up t0_2, e3.up t0_3, e4.up t0_4, trivial⟩
    have R0 := R0_
    have A0 : (upd H4 l0 (.lst [w0, w1, w2, w3, w4])) l0 = some (.lst [w0, w1, w2, w3, w4]) := upd_same
    generalize upd H4 l0 (.lst [w0, w1, w2, w3, w4]) = G0 at S0 R0 A0 ⊢
    try clear R0_
    refine ⟨_, rfl, _, rfl, rfl, fun w5 H5 s5 e5 => ⟨_, rfl, rfl, fun w6 H6 s6 e6 => ⟨_, rfl, rfl, fun w7 H7 s7 e7 => ⟨_, rfl, rfl, fun w8 H8 s8 e8 => ⟨_, rfl, rfl, fun w9 H9 s9 e9 => ⟨(by show 5 ≤ sizeLine; decide), fun m1 hm1 => ⟨l0, m1, _, _, rfl, rfl, (s5.trans (s6.trans (s7.trans (s8.trans (s9.trans (Same.new' hm1)))))) _ _ A0, upd_same, (by show 5 + 5 ≤ sizeLine; decide), fun l1 hl1 => ?_⟩⟩⟩⟩⟩⟩⟩
    have t1_9 := (Same.new' (o := .lst [w5, w6, w7, w8, w9]) hm1).trans (Same.new' (o := .lst ([w0, w1, w2, w3, w4] ++ [w5, w6, w7, w8, w9])) hl1)
    have t1_8 := s9.trans t1_9
    have t1_7 := s8.trans t1_8
    have t1_6 := s7.trans t1_7
    have t1_5 := s6.trans t1_6
    have S1 := S0.trans (s5.trans t1_5)
    have R1_ : Errs K (upd (upd H9 m1 (.lst [w5, w6, w7, w8, w9])) l1 (.lst ([w0, w1, w2, w3, w4] ++ [w5, w6, w7, w8, w9]))) v 5 [w5, w6, w7, w8, w9] := ⟨e5.up t1_5, e6.up t1_6, e7.up t1_7, e8.up t1_8, e9.up t1_9, trivial⟩
    have R1 : Errs K (upd (upd H9 m1 (.lst [w5, w6, w7, w8, w9])) l1 (.lst ([w0, w1, w2, w3, w4] ++ [w5, w6, w7, w8, w9]))) v 0 ([w0, w1, w2, w3, w4] ++ [w5, w6, w7, w8, w9]) := Errs.app (Errs.up (s5.trans t1_5) R0) R1_
    have A1 : (upd (upd H9 m1 (.lst [w5, w6, w7, w8, w9])) l1 (.lst ([w0, w1, w2, w3, w4] ++ [w5, w6, w7, w8, w9]))) l1 = some (.lst ([w0, w1, w2, w3, w4] ++ [w5, w6, w7, w8, w9])) := upd_same
    generalize upd (upd H9 m1 (.lst [w5, w6, w7, w8, w9])) l1 (.lst ([w0, w1, w2, w3, w4] ++ [w5, w6, w7, w8, w9])) = G1 at S1 R1 A1 ⊢
    refine ⟨_, rfl, _, rfl, rfl, fun w10 H10 s10 e10 => ⟨_, rfl, rfl, fun w11 H11 s11 e11 => ⟨_, rfl, rfl, fun w12 H12 s12 e12 => ⟨_, rfl, rfl, fun w13 H13 s13 e13 => ⟨_, rfl, rfl, fun w14 H14 s14 e14 => ⟨(by show 5 ≤ sizeLine; decide), fun m2 hm2 => ⟨l1, m2, _, _, rfl, rfl, (s10.trans (s11.trans (s12.trans (s13.trans (s14.trans (Same.new' hm2)))))) _ _ A1, upd_same, (by show 10 + 5 ≤ sizeLine; decide), fun l2 hl2 => ?_⟩⟩⟩⟩⟩⟩⟩
    have t2_14 := (Same.new' (o := .lst [w10, w11, w12, w13, w14]) hm2).trans (Same.new' (o := .lst (([w0, w1, w2, w3, w4] ++ [w5, w6, w7, w8, w9]) ++ [w10, w11, w12, w13, w14])) hl2)
    have t2_13 := s14.trans t2_14
    have t2_12 := s13.trans t2_13
    have t2_11 := s12.trans t2_12
    have t2_10 := s11.trans t2_11
    have S2 := S1.trans (s10.trans t2_10)
    have R2_ : Errs K (upd (upd H14 m2 (.lst [w10, w11, w12, w13, w14])) l2 (.lst (([w0, w1, w2, w3, w4] ++ [w5, w6, w7, w8, w9]) ++ [w10, w11, w12, w13, w14]))) v 10 [w10, w11, w12, w13, w14] := ⟨e10.up t2_10, e11.up t2_11, e12.up t2_12, e13.up t2_13, e14.up t2_14, trivial⟩
    have R2 : Errs K (upd (upd H14 m2 (.lst [w10, w11, w12, w13, w14])) l2 (.lst (([w0, w1, w2, w3, w4] ++ [w5, w6, w7, w8, w9]) ++ [w10, w11, w12, w13, w14]))) v 0 (([w0, w1, w2, w3, w4] ++ [w5, w6, w7, w8, w9]) ++ [w10, w11, w12, w13, w14]) := Errs.app (Errs.up (s10.trans t2_10) R1) R2_
    have A2 : (upd (upd H14 m2 (.lst [w10, w11, w12, w13, w14])) l2 (.lst (([w0, w1, w2, w3, w4] ++ [w5, w6, w7, w8, w9]) ++ [w10, w11, w12, w13, w14]))) l2 = some (.lst (([w0, w1, w2, w3, w4] ++ [w5, w6, w7, w8, w9]) ++ [w10, w11, w12, w13, w14])) := upd_same
    generalize upd (upd H14 m2 (.lst [w10, w11, w12, w13, w14])) l2 (.lst (([w0, w1, w2, w3, w4] ++ [w5, w6, w7, w8, w9]) ++ [w10, w11, w12, w13, w14])) = G2 at S2 R2 A2 ⊢
    refine ⟨_, rfl, _, rfl, rfl, fun w15 H15 s15 e15 => ⟨_, rfl, rfl, fun w16 H16 s16 e16 => ⟨_, rfl, rfl, fun w17 H17 s17 e17 => ⟨_, rfl, rfl, fun w18 H18 s18 e18 => ⟨_, rfl, rfl, fun w19 H19 s19 e19 => ⟨(by show 5 ≤ sizeLine; decide), fun m3 hm3 => ⟨l2, m3, _, _, rfl, rfl, (s15.trans (s16.trans (s17.trans (s18.trans (s19.trans (Same.new' hm3)))))) _ _ A2, upd_same, (by show 15 + 5 ≤ sizeLine; decide), fun l3 hl3 => ?_⟩⟩⟩⟩⟩⟩⟩
    have t3_19 := (Same.new' (o := .lst [w15, w16, w17, w18, w19]) hm3).trans (Same.new' (o := .lst ((([w0, w1, w2, w3, w4] ++ [w5, w6, w7, w8, w9]) ++ [w10, w11, w12, w13, w14]) ++ [w15, w16, w17, w18, w19])) hl3)
    have t3_18 := s19.trans t3_19
    have t3_17 := s18.trans t3_18
    have t3_16 := s17.trans t3_17
    have t3_15 := s16.trans t3_16
    have S3 := S2.trans (s15.trans t3_15)
    have R3_ : Errs K (upd (upd H19 m3 (.lst [w15, w16, w17, w18, w19])) l3 (.lst ((([w0, w1, w2, w3, w4] ++ [w5, w6, w7, w8, w9]) ++ [w10, w11, w12, w13, w14]) ++ [w15, w16, w17, w18, w19]))) v 15 [w15, w16, w17, w18, w19] := ⟨e15.up t3_15, e16.up t3_16, e17.up t3_17, e18.up t3_18, e19.up t3_19, trivial⟩
    have R3 : Errs K (upd (upd H19 m3 (.lst [w15, w16, w17, w18, w19])) l3 (.lst ((([w0, w1, w2, w3, w4] ++ [w5, w6, w7, w8, w9]) ++ [w10, w11, w12, w13, w14]) ++ [w15, w16, w17, w18, w19]))) v 0 ((([w0, w1, w2, w3, w4] ++ [w5, w6, w7, w8, w9]) ++ [w10, w11, w12, w13, w14]) ++ [w15, w16, w17, w18, w19]) := Errs.app (Errs.up (s15.trans t3_15) R2) R3_
    have A3 : (upd (upd H19 m3 (.lst [w15, w16, w17, w18, w19])) l3 (.lst ((([w0, w1, w2, w3, w4] ++ [w5, w6, w7, w8, w9]) ++ [w10, w11, w12, w13, w14]) ++ [w15, w16, w17, w18, w19]))) l3 = some (.lst ((([w0, w1, w2, w3, w4] ++ [w5, w6, w7, w8, w9]) ++ [w10, w11, w12, w13, w14]) ++ [w15, w16, w17, w18, w19])) := upd_same
    generalize upd (upd H19 m3 (.lst [w15, w16, w17, w18, w19])) l3 (.lst ((([w0, w1, w2, w3, w4] ++ [w5, w6, w7, w8, w9]) ++ [w10, w11, w12, w13, w14]) ++ [w15, w16, w17, w18, w19])) = G3 at S3 R3 A3 ⊢
    refine ⟨_, rfl, _, rfl, rfl, fun w20 H20 s20 e20 => ⟨_, rfl, rfl, fun w21 H21 s21 e21 => ⟨_, rfl, rfl, fun w22 H22 s22 e22 => ⟨rfl, fun w23 H23 s23 e23 => ⟨rfl, fun w24 H24 s24 e24 => ⟨(by show 5 ≤ sizeLine; decide), fun m4 hm4 => ⟨l3, m4, _, _, rfl, rfl, (s20.trans (s21.trans (s22.trans (s23.trans (s24.trans (Same.new' hm4)))))) _ _ A3, upd_same, (by show 20 + 5 ≤ sizeLine; decide), fun l4 hl4 => ?_⟩⟩⟩⟩⟩⟩⟩
    have t4_24 := (Same.new' (o := .lst [w20, w21, w22, w23, w24]) hm4).trans (Same.new' (o := .lst (((([w0, w1, w2, w3, w4] ++ [w5, w6, w7, w8, w9]) ++ [w10, w11, w12, w13, w14]) ++ [w15, w16, w17, w18, w19]) ++ [w20, w21, w22, w23, w24])) hl4)
    have t4_23 := s24.trans t4_24
    have t4_22 := s23.trans t4_23
    have t4_21 := s22.trans t4_22
    have t4_20 := s21.trans t4_21
    have S4 := S3.trans (s20.trans t4_20)
    have R4_ : Errs K (upd (upd H24 m4 (.lst [w20, w21, w22, w23, w24])) l4 (.lst (((([w0, w1, w2, w3, w4] ++ [w5, w6, w7, w8, w9]) ++ [w10, w11, w12, w13, w14]) ++ [w15, w16, w17, w18, w19]) ++ [w20, w21, w22, w23, w24]))) v 20 [w20, w21, w22, w23, w24] := ⟨e20.up t4_20, e21.up t4_21, e22.up t4_22, e23.up t4_23, e24.up t4_24, trivial⟩
    have R4 : Errs K (upd (upd H24 m4 (.lst [w20, w21, w22, w23, w24])) l4 (.lst (((([w0, w1, w2, w3, w4] ++ [w5, w6, w7, w8, w9]) ++ [w10, w11, w12, w13, w14]) ++ [w15, w16, w17, w18, w19]) ++ [w20, w21, w22, w23, w24]))) v 0 (((([w0, w1, w2, w3, w4] ++ [w5, w6, w7, w8, w9]) ++ [w10, w11, w12, w13, w14]) ++ [w15, w16, w17, w18, w19]) ++ [w20, w21, w22, w23, w24]) := Errs.app (Errs.up (s20.trans t4_20) R3) R4_
    have A4 : (upd (upd H24 m4 (.lst [w20, w21, w22, w23, w24])) l4 (.lst (((([w0, w1, w2, w3, w4] ++ [w5, w6, w7, w8, w9]) ++ [w10, w11, w12, w13, w14]) ++ [w15, w16, w17, w18, w19]) ++ [w20, w21, w22, w23, w24]))) l4 = some (.lst (((([w0, w1, w2, w3, w4] ++ [w5, w6, w7, w8, w9]) ++ [w10, w11, w12, w13, w14]) ++ [w15, w16, w17, w18, w19]) ++ [w20, w21, w22, w23, w24])) := upd_same
    generalize upd (upd H24 m4 (.lst [w20, w21, w22, w23, w24])) l4 (.lst (((([w0, w1, w2, w3, w4] ++ [w5, w6, w7, w8, w9]) ++ [w10, w11, w12, w13, w14]) ++ [w15, w16, w17, w18, w19]) ++ [w20, w21, w22, w23, w24])) = G4 at S4 R4 A4 ⊢
    refine ⟨_, rfl, rfl, fun w25 H25 s25 e25 => ⟨rfl, fun w26 H26 s26 e26 => ⟨(by show 2 ≤ sizeLine; decide), fun m5 hm5 => ⟨l4, m5, _, _, rfl, rfl, (s25.trans (s26.trans (Same.new' hm5))) _ _ A4, upd_same, (by show 25 + 2 ≤ sizeLine; decide), fun l5 hl5 => ?_⟩⟩⟩⟩
    have t5_26 := (Same.new' (o := .lst [w25, w26]) hm5).trans (Same.new' (o := .lst ((((([w0, w1, w2, w3, w4] ++ [w5, w6, w7, w8, w9]) ++ [w10, w11, w12, w13, w14]) ++ [w15, w16, w17, w18, w19]) ++ [w20, w21, w22, w23, w24]) ++ [w25, w26])) hl5)
    have t5_25 := s26.trans t5_26
    have S5 := S4.trans (s25.trans t5_25)
    have R5_ : Errs K (upd (upd H26 m5 (.lst [w25, w26])) l5 (.lst ((((([w0, w1, w2, w3, w4] ++ [w5, w6, w7, w8, w9]) ++ [w10, w11, w12, w13, w14]) ++ [w15, w16, w17, w18, w19]) ++ [w20, w21, w22, w23, w24]) ++ [w25, w26]))) v 25 [w25, w26] := ⟨e25.up t5_25, e26.up t5_26, trivial⟩
    have R5 : Errs K (upd (upd H26 m5 (.lst [w25, w26])) l5 (.lst ((((([w0, w1, w2, w3, w4] ++ [w5, w6, w7, w8, w9]) ++ [w10, w11, w12, w13, w14]) ++ [w15, w16, w17, w18, w19]) ++ [w20, w21, w22, w23, w24]) ++ [w25, w26]))) v 0 ((((([w0, w1, w2, w3, w4] ++ [w5, w6, w7, w8, w9]) ++ [w10, w11, w12, w13, w14]) ++ [w15, w16, w17, w18, w19]) ++ [w20, w21, w22, w23, w24]) ++ [w25, w26]) := Errs.app (Errs.up (s25.trans t5_25) R4) R5_
    have A5 : (upd (upd H26 m5 (.lst [w25, w26])) l5 (.lst ((((([w0, w1, w2, w3, w4] ++ [w5, w6, w7, w8, w9]) ++ [w10, w11, w12, w13, w14]) ++ [w15, w16, w17, w18, w19]) ++ [w20, w21, w22, w23, w24]) ++ [w25, w26]))) l5 = some (.lst ((((([w0, w1, w2, w3, w4] ++ [w5, w6, w7, w8, w9]) ++ [w10, w11, w12, w13, w14]) ++ [w15, w16, w17, w18, w19]) ++ [w20, w21, w22, w23, w24]) ++ [w25, w26])) := upd_same
    generalize upd (upd H26 m5 (.lst [w25, w26])) l5 (.lst ((((([w0, w1, w2, w3, w4] ++ [w5, w6, w7, w8, w9]) ++ [w10, w11, w12, w13, w14]) ++ [w15, w16, w17, w18, w19]) ++ [w20, w21, w22, w23, w24]) ++ [w25, w26])) = G5 at S5 R5 A5 ⊢
    exact ⟨_, rfl, q l5 _ G5 S5 A5 rfl R5⟩
end
end K01
namespace K01
open PySem PySem.Spec PyProof.Rows L2
def spFields (K : PySem.W.Frag) : Sp := fun vs H Q _ => ∃ (r : Addr) (v : V) (ws : List V), vs = [.ref r] ∧ H r = some (.lst ws) ∧ ws.length = 27 ∧ Errs K H v 0 ws ∧ ∀ p H', Same H H' → H' p = some (.lst (List.replicate 23 v)) → Q (.ref p) H'
section
variable {P : Program} {w : World} {K : PySem.W.Frag} {mg : Str → Option Value} {base : Heap} {f g : Addr} {fd gd : FuncData} {CX : CXT}
theorem sc_law_fields : FnScope ["_law_made_here", "_law_found"] ["_law_made_here"] (defScope s_law_fields) := ⟨rfl, rfl, rfl, by decide +kernel, rfl, by decide +kernel, by decide +kernel⟩
theorem ok_law_fields (F : FnP K "_law_fields" s_law_fields f fd) (E : EAll P K mg) : FnOk P w K mg base CX0 1 f fd ["_law_made_here"] (spFields K) := by
  refine F.ok sc_law_fields (fun vs H Q E h => ?_) (fun cdv A outer s G0 vs Q Ex hr h => ?_)
  · obtain ⟨_, _, _, rfl, _⟩ := h
    rfl
  · obtain ⟨r, v, ws, rfl, hr0, hlen, hE, q⟩ := h
    have S0 := Same.refl G0
    obtain ⟨w0, hw0, he0⟩ := hE.at (j := 0) (by rw [hlen]; decide)
    obtain ⟨w1, hw1, he1⟩ := hE.at (j := 1) (by rw [hlen]; decide)
    obtain ⟨w2, hw2, he2⟩ := hE.at (j := 2) (by rw [hlen]; decide)
    obtain ⟨w3, hw3, he3⟩ := hE.at (j := 3) (by rw [hlen]; decide)
    obtain ⟨w4, hw4, he4⟩ := hE.at (j := 4) (by rw [hlen]; decide)
    obtain ⟨w5, hw5, he5⟩ := hE.at (j := 5) (by rw [hlen]; decide)
    obtain ⟨w6, hw6, he6⟩ := hE.at (j := 6) (by rw [hlen]; decide)
    obtain ⟨w7, hw7, he7⟩ := hE.at (j := 7) (by rw [hlen]; decide)
    obtain ⟨w8, hw8, he8⟩ := hE.at (j := 8) (by rw [hlen]; decide)
    obtain ⟨w9, hw9, he9⟩ := hE.at (j := 9) (by rw [hlen]; decide)
    obtain ⟨w10, hw10, he10⟩ := hE.at (j := 10) (by rw [hlen]; decide)
    obtain ⟨w11, hw11, he11⟩ := hE.at (j := 11) (by rw [hlen]; decide)
    obtain ⟨w12, hw12, he12⟩ := hE.at (j := 12) (by rw [hlen]; decide)
    obtain ⟨w13, hw13, he13⟩ := hE.at (j := 13) (by rw [hlen]; decide)
    obtain ⟨w14, hw14, he14⟩ := hE.at (j := 14) (by rw [hlen]; decide)
    obtain ⟨w15, hw15, he15⟩ := hE.at (j := 15) (by rw [hlen]; decide)
    obtain ⟨w16, hw16, he16⟩ := hE.at (j := 16) (by rw [hlen]; decide)
    obtain ⟨w17, hw17, he17⟩ := hE.at (j := 17) (by rw [hlen]; decide)
    obtain ⟨w18, hw18, he18⟩ := hE.at (j := 18) (by rw [hlen]; decide)
    obtain ⟨w19, hw19, he19⟩ := hE.at (j := 19) (by rw [hlen]; decide)
    obtain ⟨w20, hw20, he20⟩ := hE.at (j := 20) (by rw [hlen]; decide)
    obtain ⟨w21, hw21, he21⟩ := hE.at (j := 21) (by rw [hlen]; decide)
    obtain ⟨w22, hw22, he22⟩ := hE.at (j := 22) (by rw [hlen]; decide)
    refine ⟨_, (pss_cons (ps_set (i := 1) sc_law_fields.nd rfl (Or.inl rfl) (pe_lst (pa_cons (pe_errF (pe_ix ix_list (pv 0) pe_int (fun _ _ => rfl))) (pa_cons (pe_errF (pe_ix ix_list (pv 0) pe_int (fun _ _ => rfl))) (pa_cons (pe_errF (pe_ix ix_list (pv 0) pe_int (fun _ _ => rfl))) (pa_cons (pe_errF (pe_ix ix_list (pv 0) pe_int (fun _ _ => rfl))) (pa_cons (pe_errF (pe_ix ix_list (pv 0) pe_int (fun _ _ => rfl))) (pa_cons (pe_errF (pe_ix ix_list (pv 0) pe_int (fun _ _ => rfl))) pa_nil))))))))
      (pss_cons (ps_set (i := 1) sc_law_fields.nd rfl (Or.inl rfl) (pe_op op_cat (pv 1) (pe_lst (pa_cons (pe_errF (pe_ix ix_list (pv 0) pe_int (fun _ _ => rfl))) (pa_cons (pe_errF (pe_ix ix_list (pv 0) pe_int (fun _ _ => rfl))) (pa_cons (pe_errF (pe_ix ix_list (pv 0) pe_int (fun _ _ => rfl))) (pa_cons (pe_errF (pe_ix ix_list (pv 0) pe_int (fun _ _ => rfl))) (pa_cons (pe_errF (pe_ix ix_list (pv 0) pe_int (fun _ _ => rfl))) (pa_cons (pe_errF (pe_ix ix_list (pv 0) pe_int (fun _ _ => rfl))) pa_nil)))))))))
      (pss_cons (ps_set (i := 1) sc_law_fields.nd rfl (Or.inl rfl) (pe_op op_cat (pv 1) (pe_lst (pa_cons (pe_errF (pe_ix ix_list (pv 0) pe_int (fun _ _ => rfl))) (pa_cons (pe_errF (pe_ix ix_list (pv 0) pe_int (fun _ _ => rfl))) (pa_cons (pe_errF (pe_ix ix_list (pv 0) pe_int (fun _ _ => rfl))) (pa_cons (pe_errF (pe_ix ix_list (pv 0) pe_int (fun _ _ => rfl))) (pa_cons (pe_errF (pe_ix ix_list (pv 0) pe_int (fun _ _ => rfl))) (pa_cons (pe_errF (pe_ix ix_list (pv 0) pe_int (fun _ _ => rfl))) pa_nil)))))))))
      (pss_cons (ps_set (i := 1) sc_law_fields.nd rfl (Or.inl rfl) (pe_op op_cat (pv 1) (pe_lst (pa_cons (pe_errF (pe_ix ix_list (pv 0) pe_int (fun _ _ => rfl))) (pa_cons (pe_errF (pe_ix ix_list (pv 0) pe_int (fun _ _ => rfl))) (pa_cons (pe_errF (pe_ix ix_list (pv 0) pe_int (fun _ _ => rfl))) (pa_cons (pe_errF (pe_ix ix_list (pv 0) pe_int (fun _ _ => rfl))) (pa_cons (pe_errF (pe_ix ix_list (pv 0) pe_int (fun _ _ => rfl))) pa_nil))))))))
      (pss_one (ps_ret (pv 1))))))), ?_⟩
    refine ⟨_, rfl, r, ws, 0, _, rfl, rfl, SqL.of (S0 _ _ hr0), atI_nat hw0, ca K "InvalidName", fsOf v 0, v, he0.up S0, xf_of E.e0, E.f0.no1, rfl, _, rfl, r, ws, 1, _, rfl, rfl, SqL.of (S0 _ _ hr0), atI_nat hw1, ca K "InvalidPolicy", fsOf v 1, v, he1.up S0, xf_of E.e1, E.f1.no1, rfl, _, rfl, r, ws, 2, _, rfl, rfl, SqL.of (S0 _ _ hr0), atI_nat hw2, ca K "InvalidPolicies", fsOf v 2, v, he2.up S0, xf_of E.e2, E.f2.no1, rfl, _, rfl, r, ws, 3, _, rfl, rfl, SqL.of (S0 _ _ hr0), atI_nat hw3, ca K "InvalidServices", fsOf v 3, v, he3.up S0, xf_of E.e3, E.f3.no1, rfl, _, rfl, r, ws, 4, _, rfl, rfl, SqL.of (S0 _ _ hr0), atI_nat hw4, ca K "InvalidPart", fsOf v 4, v, he4.up S0, xf_of E.e4, E.f4.no1, rfl, _, rfl, r, ws, 5, _, rfl, rfl, SqL.of (S0 _ _ hr0), atI_nat hw5, ca K "InvalidText", fsOf v 5, v, he5.up S0, xf_of E.e5, E.f5.no1, rfl, (by show 6 ≤ sizeLine; decide), fun l0 hl0 => ?_⟩
    have S1 := S0.trans (Same.new' (o := .lst [v, v, v, v, v, v]) hl0)
    have A0 : (upd G0 l0 (.lst [v, v, v, v, v, v])) l0 = some (.lst [v, v, v, v, v, v]) := upd_same
    generalize upd G0 l0 (.lst [v, v, v, v, v, v]) = G1 at S1 A0 ⊢
    refine ⟨_, rfl, _, rfl, r, ws, 6, _, rfl, rfl, SqL.of (S1 _ _ hr0), atI_nat hw6, ca K "InvalidChoices", fsOf v 6, v, he6.up S1, xf_of E.e6, E.f6.no1, rfl, _, rfl, r, ws, 7, _, rfl, rfl, SqL.of (S1 _ _ hr0), atI_nat hw7, ca K "InvalidChoice", fsOf v 7, v, he7.up S1, xf_of E.e7, E.f7.no1, rfl, _, rfl, r, ws, 8, _, rfl, rfl, SqL.of (S1 _ _ hr0), atI_nat hw8, ca K "InvalidNumber", fsOf v 8, v, he8.up S1, xf_of E.e8, E.f8.no1, rfl, _, rfl, r, ws, 9, _, rfl, rfl, SqL.of (S1 _ _ hr0), atI_nat hw9, ca K "InvalidRows", fsOf v 9, v, he9.up S1, xf_of E.e9, E.f9.no1, rfl, _, rfl, r, ws, 10, _, rfl, rfl, SqL.of (S1 _ _ hr0), atI_nat hw10, ca K "InvalidTable", fsOf v 10, v, he10.up S1, xf_of E.e10, E.f10.no1, rfl, _, rfl, r, ws, 11, _, rfl, rfl, SqL.of (S1 _ _ hr0), atI_nat hw11, ca K "InvalidMeasure", fsOf v 11, v, he11.up S1, xf_of E.e11, E.f11.no1, rfl, (by show 6 ≤ sizeLine; decide), fun m1 hm1 => ⟨l0, m1, _, _, rfl, rfl, (Same.new' hm1) _ _ A0, upd_same, (by show 6 + 6 ≤ sizeLine; decide), fun l1 hl1 => ?_⟩⟩
    have S2 := S1.trans ((Same.new' (o := .lst [v, v, v, v, v, v]) hm1).trans (Same.new' (o := .lst ([v, v, v, v, v, v] ++ [v, v, v, v, v, v])) hl1))
    have A1 : (upd (upd G1 m1 (.lst [v, v, v, v, v, v])) l1 (.lst ([v, v, v, v, v, v] ++ [v, v, v, v, v, v]))) l1 = some (.lst ([v, v, v, v, v, v] ++ [v, v, v, v, v, v])) := upd_same
    generalize upd (upd G1 m1 (.lst [v, v, v, v, v, v])) l1 (.lst ([v, v, v, v, v, v] ++ [v, v, v, v, v, v])) = G2 at S2 A1 ⊢
    refine ⟨_, rfl, _, rfl, r, ws, 12, _, rfl, rfl, SqL.of (S2 _ _ hr0), atI_nat hw12, ca K "InvalidLane", fsOf v 12, v, he12.up S2, xf_of E.e12, E.f12.no1, rfl, _, rfl, r, ws, 13, _, rfl, rfl, SqL.of (S2 _ _ hr0), atI_nat hw13, ca K "InvalidState", fsOf v 13, v, he13.up S2, xf_of E.e13, E.f13.no1, rfl, _, rfl, r, ws, 14, _, rfl, rfl, SqL.of (S2 _ _ hr0), atI_nat hw14, ca K "InvalidStep", fsOf v 14, v, he14.up S2, xf_of E.e14, E.f14.no1, rfl, _, rfl, r, ws, 15, _, rfl, rfl, SqL.of (S2 _ _ hr0), atI_nat hw15, ca K "InvalidLine", fsOf v 15, v, he15.up S2, xf_of E.e15, E.f15.no1, rfl, _, rfl, r, ws, 16, _, rfl, rfl, SqL.of (S2 _ _ hr0), atI_nat hw16, ca K "InvalidOffer", fsOf v 16, v, he16.up S2, xf_of E.e16, E.f16.no1, rfl, _, rfl, r, ws, 17, _, rfl, rfl, SqL.of (S2 _ _ hr0), atI_nat hw17, ca K "InvalidWish", fsOf v 17, v, he17.up S2, xf_of E.e17, E.f17.no1, rfl, (by show 6 ≤ sizeLine; decide), fun m2 hm2 => ⟨l1, m2, _, _, rfl, rfl, (Same.new' hm2) _ _ A1, upd_same, (by show 12 + 6 ≤ sizeLine; decide), fun l2 hl2 => ?_⟩⟩
    have S3 := S2.trans ((Same.new' (o := .lst [v, v, v, v, v, v]) hm2).trans (Same.new' (o := .lst (([v, v, v, v, v, v] ++ [v, v, v, v, v, v]) ++ [v, v, v, v, v, v])) hl2))
    have A2 : (upd (upd G2 m2 (.lst [v, v, v, v, v, v])) l2 (.lst (([v, v, v, v, v, v] ++ [v, v, v, v, v, v]) ++ [v, v, v, v, v, v]))) l2 = some (.lst (([v, v, v, v, v, v] ++ [v, v, v, v, v, v]) ++ [v, v, v, v, v, v])) := upd_same
    generalize upd (upd G2 m2 (.lst [v, v, v, v, v, v])) l2 (.lst (([v, v, v, v, v, v] ++ [v, v, v, v, v, v]) ++ [v, v, v, v, v, v])) = G3 at S3 A2 ⊢
    refine ⟨_, rfl, _, rfl, r, ws, 18, _, rfl, rfl, SqL.of (S3 _ _ hr0), atI_nat hw18, ca K "InvalidQuestion", fsOf v 18, v, he18.up S3, xf_of E.e18, E.f18.no1, rfl, _, rfl, r, ws, 19, _, rfl, rfl, SqL.of (S3 _ _ hr0), atI_nat hw19, ca K "InvalidCommand", fsOf v 19, v, he19.up S3, xf_of E.e19, E.f19.no1, rfl, _, rfl, r, ws, 20, _, rfl, rfl, SqL.of (S3 _ _ hr0), atI_nat hw20, ca K "UnknownName", fsOf v 20, v, he20.up S3, xf_of E.e20, E.f20.no1, rfl, _, rfl, r, ws, 21, _, rfl, rfl, SqL.of (S3 _ _ hr0), atI_nat hw21, ca K "TooLong", fsOf v 21, v, he21.up S3, xf_of E.e21, E.f21.no1, rfl, _, rfl, r, ws, 22, _, rfl, rfl, SqL.of (S3 _ _ hr0), atI_nat hw22, ca K "LimitExceeded", fsOf v 22, v, he22.up S3, xf_of E.e22, E.f22.no1, rfl, (by show 5 ≤ sizeLine; decide), fun m3 hm3 => ⟨l2, m3, _, _, rfl, rfl, (Same.new' hm3) _ _ A2, upd_same, (by show 18 + 5 ≤ sizeLine; decide), fun l3 hl3 => ?_⟩⟩
    have S4 := S3.trans ((Same.new' (o := .lst [v, v, v, v, v]) hm3).trans (Same.new' (o := .lst ((([v, v, v, v, v, v] ++ [v, v, v, v, v, v]) ++ [v, v, v, v, v, v]) ++ [v, v, v, v, v])) hl3))
    have A3 : (upd (upd G3 m3 (.lst [v, v, v, v, v])) l3 (.lst ((([v, v, v, v, v, v] ++ [v, v, v, v, v, v]) ++ [v, v, v, v, v, v]) ++ [v, v, v, v, v]))) l3 = some (.lst ((([v, v, v, v, v, v] ++ [v, v, v, v, v, v]) ++ [v, v, v, v, v, v]) ++ [v, v, v, v, v])) := upd_same
    generalize upd (upd G3 m3 (.lst [v, v, v, v, v])) l3 (.lst ((([v, v, v, v, v, v] ++ [v, v, v, v, v, v]) ++ [v, v, v, v, v, v]) ++ [v, v, v, v, v])) = G4 at S4 A3 ⊢
    exact ⟨_, rfl, q l3 G4 S4 A3⟩
end
end K01
namespace K01
open PySem PySem.Spec PyProof.Rows L2
def kindsV (i : Nat) : List V := (((((((([V.bl (decide (0 = i)), V.bl (decide (1 = i)), V.bl (decide (2 = i))] ++ [V.bl (decide (3 = i)), V.bl (decide (4 = i)), V.bl (decide (5 = i))]) ++ [V.bl (decide (6 = i)), V.bl (decide (7 = i)), V.bl (decide (8 = i))]) ++ [V.bl (decide (9 = i)), V.bl (decide (10 = i)), V.bl (decide (11 = i))]) ++ [V.bl (decide (12 = i)), V.bl (decide (13 = i)), V.bl (decide (14 = i))]) ++ [V.bl (decide (15 = i)), V.bl (decide (16 = i)), V.bl (decide (17 = i))]) ++ [V.bl (decide (18 = i)), V.bl (decide (19 = i)), V.bl (decide (20 = i))]) ++ [V.bl (decide (21 = i)), V.bl (decide (22 = i)), V.bl (decide (23 = i))]) ++ [V.bl (decide (24 = i)), V.bl (decide (25 = i)), V.bl (decide (26 = i))])
theorem isi_ne : ("isinstance" : Str) ≠ "__name__" := by decide
theorem isi_db : (("isinstance" : Str) == ("__debug__" : Str)) = false := by decide
theorem boot_isi : bootBuiltins "isinstance" = some (.builtin "isinstance") := by decide +kernel
def spKinds (K : PySem.W.Frag) : Sp := fun vs H Q _ => ∃ (x : V) (i : Nat) (fs : List (Str × V)), vs = [x] ∧ i < 27 ∧ IsErr H x (Cn K i) fs ∧ ∀ p H', Same H H' → H' p = some (.lst (kindsV i)) → Q (.ref p) H'
section
variable {P : Program} {w : World} {K : PySem.W.Frag} {mg : Str → Option Value} {base : Heap} {f g : Addr} {fd gd : FuncData} {CX : CXT}
theorem sc_law_kinds : FnScope ["_law_one", "_law_found"] ["_law_one"] (defScope s_law_kinds) := ⟨rfl, rfl, rfl, by decide +kernel, rfl, by decide +kernel, by decide +kernel⟩
theorem ok_law_kinds (F : FnP K "_law_kinds" s_law_kinds f fd) (E : EAll P K mg) (B : Blt mg) : FnOk P w K mg base CX0 1 f fd ["_law_one"] (spKinds K) := by
  refine F.ok sc_law_kinds (fun vs H Q E h => ?_) (fun cdv A outer s G0 vs Q Ex hr h => ?_)
  · obtain ⟨_, _, _, rfl, _⟩ := h
    rfl
  · obtain ⟨x, i, fs, rfl, hi, he, q⟩ := h
    have S0 := Same.refl G0
    refine ⟨_, (pss_cons (ps_set (i := 1) sc_law_kinds.nd rfl (Or.inl rfl) (pe_lst (pa_cons (pe_callB call_isV rfl B.isinstance boot_isi (pa_cons (pv 0) (pa_cons (pe_glob (v := .ref (ca K "InvalidName")) rfl E.e0.gC rfl) pa_nil)) isi_ne isi_db) (pa_cons (pe_callB call_isV rfl B.isinstance boot_isi (pa_cons (pv 0) (pa_cons (pe_glob (v := .ref (ca K "InvalidPolicy")) rfl E.e1.gC rfl) pa_nil)) isi_ne isi_db) (pa_cons (pe_callB call_isV rfl B.isinstance boot_isi (pa_cons (pv 0) (pa_cons (pe_glob (v := .ref (ca K "InvalidPolicies")) rfl E.e2.gC rfl) pa_nil)) isi_ne isi_db) pa_nil)))))
      (pss_cons (ps_set (i := 1) sc_law_kinds.nd rfl (Or.inl rfl) (pe_op op_cat (pv 1) (pe_lst (pa_cons (pe_callB call_isV rfl B.isinstance boot_isi (pa_cons (pv 0) (pa_cons (pe_glob (v := .ref (ca K "InvalidServices")) rfl E.e3.gC rfl) pa_nil)) isi_ne isi_db) (pa_cons (pe_callB call_isV rfl B.isinstance boot_isi (pa_cons (pv 0) (pa_cons (pe_glob (v := .ref (ca K "InvalidPart")) rfl E.e4.gC rfl) pa_nil)) isi_ne isi_db) (pa_cons (pe_callB call_isV rfl B.isinstance boot_isi (pa_cons (pv 0) (pa_cons (pe_glob (v := .ref (ca K "InvalidText")) rfl E.e5.gC rfl) pa_nil)) isi_ne isi_db) pa_nil))))))
      (pss_cons (ps_set (i := 1) sc_law_kinds.nd rfl (Or.inl rfl) (pe_op op_cat (pv 1) (pe_lst (pa_cons (pe_callB call_isV rfl B.isinstance boot_isi (pa_cons (pv 0) (pa_cons (pe_glob (v := .ref (ca K "InvalidChoices")) rfl E.e6.gC rfl) pa_nil)) isi_ne isi_db) (pa_cons (pe_callB call_isV rfl B.isinstance boot_isi (pa_cons (pv 0) (pa_cons (pe_glob (v := .ref (ca K "InvalidChoice")) rfl E.e7.gC rfl) pa_nil)) isi_ne isi_db) (pa_cons (pe_callB call_isV rfl B.isinstance boot_isi (pa_cons (pv 0) (pa_cons (pe_glob (v := .ref (ca K "InvalidNumber")) rfl E.e8.gC rfl) pa_nil)) isi_ne isi_db) pa_nil))))))
      (pss_cons (ps_set (i := 1) sc_law_kinds.nd rfl (Or.inl rfl) (pe_op op_cat (pv 1) (pe_lst (pa_cons (pe_callB call_isV rfl B.isinstance boot_isi (pa_cons (pv 0) (pa_cons (pe_glob (v := .ref (ca K "InvalidRows")) rfl E.e9.gC rfl) pa_nil)) isi_ne isi_db) (pa_cons (pe_callB call_isV rfl B.isinstance boot_isi (pa_cons (pv 0) (pa_cons (pe_glob (v := .ref (ca K "InvalidTable")) rfl E.e10.gC rfl) pa_nil)) isi_ne isi_db) (pa_cons (pe_callB call_isV rfl B.isinstance boot_isi (pa_cons (pv 0) (pa_cons (pe_glob (v := .ref (ca K "InvalidMeasure")) rfl E.e11.gC rfl) pa_nil)) isi_ne isi_db) pa_nil))))))
      (pss_cons (ps_set (i := 1) sc_law_kinds.nd rfl (Or.inl rfl) (pe_op op_cat (pv 1) (pe_lst (pa_cons (pe_callB call_isV rfl B.isinstance boot_isi (pa_cons (pv 0) (pa_cons (pe_glob (v := .ref (ca K "InvalidLane")) rfl E.e12.gC rfl) pa_nil)) isi_ne isi_db) (pa_cons (pe_callB call_isV rfl B.isinstance boot_isi (pa_cons (pv 0) (pa_cons (pe_glob (v := .ref (ca K "InvalidState")) rfl E.e13.gC rfl) pa_nil)) isi_ne isi_db) (pa_cons (pe_callB call_isV rfl B.isinstance boot_isi (pa_cons (pv 0) (pa_cons (pe_glob (v := .ref (ca K "InvalidStep")) rfl E.e14.gC rfl) pa_nil)) isi_ne isi_db) pa_nil))))))
      (pss_cons (ps_set (i := 1) sc_law_kinds.nd rfl (Or.inl rfl) (pe_op op_cat (pv 1) (pe_lst (pa_cons (pe_callB call_isV rfl B.isinstance boot_isi (pa_cons (pv 0) (pa_cons (pe_glob (v := .ref (ca K "InvalidLine")) rfl E.e15.gC rfl) pa_nil)) isi_ne isi_db) (pa_cons (pe_callB call_isV rfl B.isinstance boot_isi (pa_cons (pv 0) (pa_cons (pe_glob (v := .ref (ca K "InvalidOffer")) rfl E.e16.gC rfl) pa_nil)) isi_ne isi_db) (pa_cons (pe_callB call_isV rfl B.isinstance boot_isi (pa_cons (pv 0) (pa_cons (pe_glob (v := .ref (ca K "InvalidWish")) rfl E.e17.gC rfl) pa_nil)) isi_ne isi_db) pa_nil))))))
      (pss_cons (ps_set (i := 1) sc_law_kinds.nd rfl (Or.inl rfl) (pe_op op_cat (pv 1) (pe_lst (pa_cons (pe_callB call_isV rfl B.isinstance boot_isi (pa_cons (pv 0) (pa_cons (pe_glob (v := .ref (ca K "InvalidQuestion")) rfl E.e18.gC rfl) pa_nil)) isi_ne isi_db) (pa_cons (pe_callB call_isV rfl B.isinstance boot_isi (pa_cons (pv 0) (pa_cons (pe_glob (v := .ref (ca K "InvalidCommand")) rfl E.e19.gC rfl) pa_nil)) isi_ne isi_db) (pa_cons (pe_callB call_isV rfl B.isinstance boot_isi (pa_cons (pv 0) (pa_cons (pe_glob (v := .ref (ca K "UnknownName")) rfl E.e20.gC rfl) pa_nil)) isi_ne isi_db) pa_nil))))))
      (pss_cons (ps_set (i := 1) sc_law_kinds.nd rfl (Or.inl rfl) (pe_op op_cat (pv 1) (pe_lst (pa_cons (pe_callB call_isV rfl B.isinstance boot_isi (pa_cons (pv 0) (pa_cons (pe_glob (v := .ref (ca K "TooLong")) rfl E.e21.gC rfl) pa_nil)) isi_ne isi_db) (pa_cons (pe_callB call_isV rfl B.isinstance boot_isi (pa_cons (pv 0) (pa_cons (pe_glob (v := .ref (ca K "LimitExceeded")) rfl E.e22.gC rfl) pa_nil)) isi_ne isi_db) (pa_cons (pe_callB call_isV rfl B.isinstance boot_isi (pa_cons (pv 0) (pa_cons (pe_glob (v := .ref (ca K "NothingToUndo")) rfl E.e23.gC rfl) pa_nil)) isi_ne isi_db) pa_nil))))))
      (pss_cons (ps_set (i := 1) sc_law_kinds.nd rfl (Or.inl rfl) (pe_op op_cat (pv 1) (pe_lst (pa_cons (pe_callB call_isV rfl B.isinstance boot_isi (pa_cons (pv 0) (pa_cons (pe_glob (v := .ref (ca K "NothingToRedo")) rfl E.e24.gC rfl) pa_nil)) isi_ne isi_db) (pa_cons (pe_callB call_isV rfl B.isinstance boot_isi (pa_cons (pv 0) (pa_cons (pe_glob (v := .ref (ca K "NoTrial")) rfl E.e25.gC rfl) pa_nil)) isi_ne isi_db) (pa_cons (pe_callB call_isV rfl B.isinstance boot_isi (pa_cons (pv 0) (pa_cons (pe_glob (v := .ref (ca K "NoSystem")) rfl E.e26.gC rfl) pa_nil)) isi_ne isi_db) pa_nil))))))
      (pss_one (ps_ret (pv 1)))))))))))), ?_⟩
    refine ⟨_, rfl, x, .ref (ca K "InvalidName"), .ref (ca K "InvalidName"), Cn K i, fs, decide (0 = i), rfl, he.up S0, E.exc i hi, (fun u r => r), E.kit i 0 hi (by decide), _, rfl, x, .ref (ca K "InvalidPolicy"), .ref (ca K "InvalidPolicy"), Cn K i, fs, decide (1 = i), rfl, he.up S0, E.exc i hi, (fun u r => r), E.kit i 1 hi (by decide), _, rfl, x, .ref (ca K "InvalidPolicies"), .ref (ca K "InvalidPolicies"), Cn K i, fs, decide (2 = i), rfl, he.up S0, E.exc i hi, (fun u r => r), E.kit i 2 hi (by decide), (by show 3 ≤ sizeLine; decide), fun l0 hl0 => ?_⟩
    have S1 := S0.trans (Same.new' (o := .lst [V.bl (decide (0 = i)), V.bl (decide (1 = i)), V.bl (decide (2 = i))]) hl0)
    have A0 : (upd G0 l0 (.lst [V.bl (decide (0 = i)), V.bl (decide (1 = i)), V.bl (decide (2 = i))])) l0 = some (.lst [V.bl (decide (0 = i)), V.bl (decide (1 = i)), V.bl (decide (2 = i))]) := upd_same
    generalize upd G0 l0 (.lst [V.bl (decide (0 = i)), V.bl (decide (1 = i)), V.bl (decide (2 = i))]) = G1 at S1 A0 ⊢
    refine ⟨_, rfl, _, rfl, x, .ref (ca K "InvalidServices"), .ref (ca K "InvalidServices"), Cn K i, fs, decide (3 = i), rfl, he.up S1, E.exc i hi, (fun u r => r), E.kit i 3 hi (by decide), _, rfl, x, .ref (ca K "InvalidPart"), .ref (ca K "InvalidPart"), Cn K i, fs, decide (4 = i), rfl, he.up S1, E.exc i hi, (fun u r => r), E.kit i 4 hi (by decide), _, rfl, x, .ref (ca K "InvalidText"), .ref (ca K "InvalidText"), Cn K i, fs, decide (5 = i), rfl, he.up S1, E.exc i hi, (fun u r => r), E.kit i 5 hi (by decide), (by show 3 ≤ sizeLine; decide), fun m1 hm1 => ⟨l0, m1, _, _, rfl, rfl, (Same.new' hm1) _ _ A0, upd_same, (by show 3 + 3 ≤ sizeLine; decide), fun l1 hl1 => ?_⟩⟩
    have S2 := S1.trans ((Same.new' (o := .lst [V.bl (decide (3 = i)), V.bl (decide (4 = i)), V.bl (decide (5 = i))]) hm1).trans (Same.new' (o := .lst ([V.bl (decide (0 = i)), V.bl (decide (1 = i)), V.bl (decide (2 = i))] ++ [V.bl (decide (3 = i)), V.bl (decide (4 = i)), V.bl (decide (5 = i))])) hl1))
    have A1 : (upd (upd G1 m1 (.lst [V.bl (decide (3 = i)), V.bl (decide (4 = i)), V.bl (decide (5 = i))])) l1 (.lst ([V.bl (decide (0 = i)), V.bl (decide (1 = i)), V.bl (decide (2 = i))] ++ [V.bl (decide (3 = i)), V.bl (decide (4 = i)), V.bl (decide (5 = i))]))) l1 = some (.lst ([V.bl (decide (0 = i)), V.bl (decide (1 = i)), V.bl (decide (2 = i))] ++ [V.bl (decide (3 = i)), V.bl (decide (4 = i)), V.bl (decide (5 = i))])) := upd_same
    generalize upd (upd G1 m1 (.lst [V.bl (decide (3 = i)), V.bl (decide (4 = i)), V.bl (decide (5 = i))])) l1 (.lst ([V.bl (decide (0 = i)), V.bl (decide (1 = i)), V.bl (decide (2 = i))] ++ [V.bl (decide (3 = i)), V.bl (decide (4 = i)), V.bl (decide (5 = i))])) = G2 at S2 A1 ⊢
    refine ⟨_, rfl, _, rfl, x, .ref (ca K "InvalidChoices"), .ref (ca K "InvalidChoices"), Cn K i, fs, decide (6 = i), rfl, he.up S2, E.exc i hi, (fun u r => r), E.kit i 6 hi (by decide), _, rfl, x, .ref (ca K "InvalidChoice"), .ref (ca K "InvalidChoice"), Cn K i, fs, decide (7 = i), rfl, he.up S2, E.exc i hi, (fun u r => r), E.kit i 7 hi (by decide), _, rfl, x, .ref (ca K "InvalidNumber"), .ref (ca K "InvalidNumber"), Cn K i, fs, decide (8 = i), rfl, he.up S2, E.exc i hi, (fun u r => r), E.kit i 8 hi (by decide), (by show 3 ≤ sizeLine; decide), fun m2 hm2 => ⟨l1, m2, _, _, rfl, rfl, (Same.new' hm2) _ _ A1, upd_same, (by show 6 + 3 ≤ sizeLine; decide), fun l2 hl2 => ?_⟩⟩
    have S3 := S2.trans ((Same.new' (o := .lst [V.bl (decide (6 = i)), V.bl (decide (7 = i)), V.bl (decide (8 = i))]) hm2).trans (Same.new' (o := .lst (([V.bl (decide (0 = i)), V.bl (decide (1 = i)), V.bl (decide (2 = i))] ++ [V.bl (decide (3 = i)), V.bl (decide (4 = i)), V.bl (decide (5 = i))]) ++ [V.bl (decide (6 = i)), V.bl (decide (7 = i)), V.bl (decide (8 = i))])) hl2))
    have A2 : (upd (upd G2 m2 (.lst [V.bl (decide (6 = i)), V.bl (decide (7 = i)), V.bl (decide (8 = i))])) l2 (.lst (([V.bl (decide (0 = i)), V.bl (decide (1 = i)), V.bl (decide (2 = i))] ++ [V.bl (decide (3 = i)), V.bl (decide (4 = i)), V.bl (decide (5 = i))]) ++ [V.bl (decide (6 = i)), V.bl (decide (7 = i)), V.bl (decide (8 = i))]))) l2 = some (.lst (([V.bl (decide (0 = i)), V.bl (decide (1 = i)), V.bl (decide (2 = i))] ++ [V.bl (decide (3 = i)), V.bl (decide (4 = i)), V.bl (decide (5 = i))]) ++ [V.bl (decide (6 = i)), V.bl (decide (7 = i)), V.bl (decide (8 = i))])) := upd_same
    generalize upd (upd G2 m2 (.lst [V.bl (decide (6 = i)), V.bl (decide (7 = i)), V.bl (decide (8 = i))])) l2 (.lst (([V.bl (decide (0 = i)), V.bl (decide (1 = i)), V.bl (decide (2 = i))] ++ [V.bl (decide (3 = i)), V.bl (decide (4 = i)), V.bl (decide (5 = i))]) ++ [V.bl (decide (6 = i)), V.bl (decide (7 = i)), V.bl (decide (8 = i))])) = G3 at S3 A2 ⊢
    refine ⟨_, rfl, _, rfl, x, .ref (ca K "InvalidRows"), .ref (ca K "InvalidRows"), Cn K i, fs, decide (9 = i), rfl, he.up S3, E.exc i hi, (fun u r => r), E.kit i 9 hi (by decide), _, rfl, x, .ref (ca K "InvalidTable"), .ref (ca K "InvalidTable"), Cn K i, fs, decide (10 = i), rfl, he.up S3, E.exc i hi, (fun u r => r), E.kit i 10 hi (by decide), _, rfl, x, .ref (ca K "InvalidMeasure"), .ref (ca K "InvalidMeasure"), Cn K i, fs, decide (11 = i), rfl, he.up S3, E.exc i hi, (fun u r => r), E.kit i 11 hi (by decide), (by show 3 ≤ sizeLine; decide), fun m3 hm3 => ⟨l2, m3, _, _, rfl, rfl, (Same.new' hm3) _ _ A2, upd_same, (by show 9 + 3 ≤ sizeLine; decide), fun l3 hl3 => ?_⟩⟩
    have S4 := S3.trans ((Same.new' (o := .lst [V.bl (decide (9 = i)), V.bl (decide (10 = i)), V.bl (decide (11 = i))]) hm3).trans (Same.new' (o := .lst ((([V.bl (decide (0 = i)), V.bl (decide (1 = i)), V.bl (decide (2 = i))] ++ [V.bl (decide (3 = i)), V.bl (decide (4 = i)), V.bl (decide (5 = i))]) ++ [V.bl (decide (6 = i)), V.bl (decide (7 = i)), V.bl (decide (8 = i))]) ++ [V.bl (decide (9 = i)), V.bl (decide (10 = i)), V.bl (decide (11 = i))])) hl3))
    have A3 : (upd (upd G3 m3 (.lst [V.bl (decide (9 = i)), V.bl (decide (10 = i)), V.bl (decide (11 = i))])) l3 (.lst ((([V.bl (decide (0 = i)), V.bl (decide (1 = i)), V.bl (decide (2 = i))] ++ [V.bl (decide (3 = i)), V.bl (decide (4 = i)), V.bl (decide (5 = i))]) ++ [V.bl (decide (6 = i)), V.bl (decide (7 = i)), V.bl (decide (8 = i))]) ++ [V.bl (decide (9 = i)), V.bl (decide (10 = i)), V.bl (decide (11 = i))]))) l3 = some (.lst ((([V.bl (decide (0 = i)), V.bl (decide (1 = i)), V.bl (decide (2 = i))] ++ [V.bl (decide (3 = i)), V.bl (decide (4 = i)), V.bl (decide (5 = i))]) ++ [V.bl (decide (6 = i)), V.bl (decide (7 = i)), V.bl (decide (8 = i))]) ++ [V.bl (decide (9 = i)), V.bl (decide (10 = i)), V.bl (decide (11 = i))])) := upd_same
    generalize upd (upd G3 m3 (.lst [V.bl (decide (9 = i)), V.bl (decide (10 = i)), V.bl (decide (11 = i))])) l3 (.lst ((([V.bl (decide (0 = i)), V.bl (decide (1 = i)), V.bl (decide (2 = i))] ++ [V.bl (decide (3 = i)), V.bl (decide (4 = i)), V.bl (decide (5 = i))]) ++ [V.bl (decide (6 = i)), V.bl (decide (7 = i)), V.bl (decide (8 = i))]) ++ [V.bl (decide (9 = i)), V.bl (decide (10 = i)), V.bl (decide (11 = i))])) = G4 at S4 A3 ⊢
    refine ⟨_, rfl, _, rfl, x, .ref (ca K "InvalidLane"), .ref (ca K "InvalidLane"), Cn K i, fs, decide (12 = i), rfl, he.up S4, E.exc i hi, (fun u r => r), E.kit i 12 hi (by decide), _, rfl, x, .ref (ca K "InvalidState"), .ref (ca K "InvalidState"), Cn K i, fs, decide (13 = i), rfl, he.up S4, E.exc i hi, (fun u r => r), E.kit i 13 hi (by decide), _, rfl, x, .ref (ca K "InvalidStep"), .ref (ca K "InvalidStep"), Cn K i, fs, decide (14 = i), rfl, he.up S4, E.exc i hi, (fun u r => r), E.kit i 14 hi (by decide), (by show 3 ≤ sizeLine; decide), fun m4 hm4 => ⟨l3, m4, _, _, rfl, rfl, (Same.new' hm4) _ _ A3, upd_same, (by show 12 + 3 ≤ sizeLine; decide), fun l4 hl4 => ?_⟩⟩
    have S5 := S4.trans ((Same.new' (o := .lst [V.bl (decide (12 = i)), V.bl (decide (13 = i)), V.bl (decide (14 = i))]) hm4).trans (Same.new' (o := .lst (((([V.bl (decide (0 = i)), V.bl (decide (1 = i)), V.bl (decide (2 = i))] ++ [V.bl (decide (3 = i)), V.bl (decide (4 = i)), V.bl (decide (5 = i))]) ++ [V.bl (decide (6 = i)), V.bl (decide (7 = i)), V.bl (decide (8 = i))]) ++ [V.bl (decide (9 = i)), V.bl (decide (10 = i)), V.bl (decide (11 = i))]) ++ [V.bl (decide (12 = i)), V.bl (decide (13 = i)), V.bl (decide (14 = i))])) hl4))
    have A4 : (upd (upd G4 m4 (.lst [V.bl (decide (12 = i)), V.bl (decide (13 = i)), V.bl (decide (14 = i))])) l4 (.lst (((([V.bl (decide (0 = i)), V.bl (decide (1 = i)), V.bl (decide (2 = i))] ++ [V.bl (decide (3 = i)), V.bl (decide (4 = i)), V.bl (decide (5 = i))]) ++ [V.bl (decide (6 = i)), V.bl (decide (7 = i)), V.bl (decide (8 = i))]) ++ [V.bl (decide (9 = i)), V.bl (decide (10 = i)), V.bl (decide (11 = i))]) ++ [V.bl (decide (12 = i)), V.bl (decide (13 = i)), V.bl (decide (14 = i))]))) l4 = some (.lst (((([V.bl (decide (0 = i)), V.bl (decide (1 = i)), V.bl (decide (2 = i))] ++ [V.bl (decide (3 = i)), V.bl (decide (4 = i)), V.bl (decide (5 = i))]) ++ [V.bl (decide (6 = i)), V.bl (decide (7 = i)), V.bl (decide (8 = i))]) ++ [V.bl (decide (9 = i)), V.bl (decide (10 = i)), V.bl (decide (11 = i))]) ++ [V.bl (decide (12 = i)), V.bl (decide (13 = i)), V.bl (decide (14 = i))])) := upd_same
    generalize upd (upd G4 m4 (.lst [V.bl (decide (12 = i)), V.bl (decide (13 = i)), V.bl (decide (14 = i))])) l4 (.lst (((([V.bl (decide (0 = i)), V.bl (decide (1 = i)), V.bl (decide (2 = i))] ++ [V.bl (decide (3 = i)), V.bl (decide (4 = i)), V.bl (decide (5 = i))]) ++ [V.bl (decide (6 = i)), V.bl (decide (7 = i)), V.bl (decide (8 = i))]) ++ [V.bl (decide (9 = i)), V.bl (decide (10 = i)), V.bl (decide (11 = i))]) ++ [V.bl (decide (12 = i)), V.bl (decide (13 = i)), V.bl (decide (14 = i))])) = G5 at S5 A4 ⊢
    refine ⟨_, rfl, _, rfl, x, .ref (ca K "InvalidLine"), .ref (ca K "InvalidLine"), Cn K i, fs, decide (15 = i), rfl, he.up S5, E.exc i hi, (fun u r => r), E.kit i 15 hi (by decide), _, rfl, x, .ref (ca K "InvalidOffer"), .ref (ca K "InvalidOffer"), Cn K i, fs, decide (16 = i), rfl, he.up S5, E.exc i hi, (fun u r => r), E.kit i 16 hi (by decide), _, rfl, x, .ref (ca K "InvalidWish"), .ref (ca K "InvalidWish"), Cn K i, fs, decide (17 = i), rfl, he.up S5, E.exc i hi, (fun u r => r), E.kit i 17 hi (by decide), (by show 3 ≤ sizeLine; decide), fun m5 hm5 => ⟨l4, m5, _, _, rfl, rfl, (Same.new' hm5) _ _ A4, upd_same, (by show 15 + 3 ≤ sizeLine; decide), fun l5 hl5 => ?_⟩⟩
    have S6 := S5.trans ((Same.new' (o := .lst [V.bl (decide (15 = i)), V.bl (decide (16 = i)), V.bl (decide (17 = i))]) hm5).trans (Same.new' (o := .lst ((((([V.bl (decide (0 = i)), V.bl (decide (1 = i)), V.bl (decide (2 = i))] ++ [V.bl (decide (3 = i)), V.bl (decide (4 = i)), V.bl (decide (5 = i))]) ++ [V.bl (decide (6 = i)), V.bl (decide (7 = i)), V.bl (decide (8 = i))]) ++ [V.bl (decide (9 = i)), V.bl (decide (10 = i)), V.bl (decide (11 = i))]) ++ [V.bl (decide (12 = i)), V.bl (decide (13 = i)), V.bl (decide (14 = i))]) ++ [V.bl (decide (15 = i)), V.bl (decide (16 = i)), V.bl (decide (17 = i))])) hl5))
    have A5 : (upd (upd G5 m5 (.lst [V.bl (decide (15 = i)), V.bl (decide (16 = i)), V.bl (decide (17 = i))])) l5 (.lst ((((([V.bl (decide (0 = i)), V.bl (decide (1 = i)), V.bl (decide (2 = i))] ++ [V.bl (decide (3 = i)), V.bl (decide (4 = i)), V.bl (decide (5 = i))]) ++ [V.bl (decide (6 = i)), V.bl (decide (7 = i)), V.bl (decide (8 = i))]) ++ [V.bl (decide (9 = i)), V.bl (decide (10 = i)), V.bl (decide (11 = i))]) ++ [V.bl (decide (12 = i)), V.bl (decide (13 = i)), V.bl (decide (14 = i))]) ++ [V.bl (decide (15 = i)), V.bl (decide (16 = i)), V.bl (decide (17 = i))]))) l5 = some (.lst ((((([V.bl (decide (0 = i)), V.bl (decide (1 = i)), V.bl (decide (2 = i))] ++ [V.bl (decide (3 = i)), V.bl (decide (4 = i)), V.bl (decide (5 = i))]) ++ [V.bl (decide (6 = i)), V.bl (decide (7 = i)), V.bl (decide (8 = i))]) ++ [V.bl (decide (9 = i)), V.bl (decide (10 = i)), V.bl (decide (11 = i))]) ++ [V.bl (decide (12 = i)), V.bl (decide (13 = i)), V.bl (decide (14 = i))]) ++ [V.bl (decide (15 = i)), V.bl (decide (16 = i)), V.bl (decide (17 = i))])) := upd_same
    generalize upd (upd G5 m5 (.lst [V.bl (decide (15 = i)), V.bl (decide (16 = i)), V.bl (decide (17 = i))])) l5 (.lst ((((([V.bl (decide (0 = i)), V.bl (decide (1 = i)), V.bl (decide (2 = i))] ++ [V.bl (decide (3 = i)), V.bl (decide (4 = i)), V.bl (decide (5 = i))]) ++ [V.bl (decide (6 = i)), V.bl (decide (7 = i)), V.bl (decide (8 = i))]) ++ [V.bl (decide (9 = i)), V.bl (decide (10 = i)), V.bl (decide (11 = i))]) ++ [V.bl (decide (12 = i)), V.bl (decide (13 = i)), V.bl (decide (14 = i))]) ++ [V.bl (decide (15 = i)), V.bl (decide (16 = i)), V.bl (decide (17 = i))])) = G6 at S6 A5 ⊢
    refine ⟨_, rfl, _, rfl, x, .ref (ca K "InvalidQuestion"), .ref (ca K "InvalidQuestion"), Cn K i, fs, decide (18 = i), rfl, he.up S6, E.exc i hi, (fun u r => r), E.kit i 18 hi (by decide), _, rfl, x, .ref (ca K "InvalidCommand"), .ref (ca K "InvalidCommand"), Cn K i, fs, decide (19 = i), rfl, he.up S6, E.exc i hi, (fun u r => r), E.kit i 19 hi (by decide), _, rfl, x, .ref (ca K "UnknownName"), .ref (ca K "UnknownName"), Cn K i, fs, decide (20 = i), rfl, he.up S6, E.exc i hi, (fun u r => r), E.kit i 20 hi (by decide), (by show 3 ≤ sizeLine; decide), fun m6 hm6 => ⟨l5, m6, _, _, rfl, rfl, (Same.new' hm6) _ _ A5, upd_same, (by show 18 + 3 ≤ sizeLine; decide), fun l6 hl6 => ?_⟩⟩
    have S7 := S6.trans ((Same.new' (o := .lst [V.bl (decide (18 = i)), V.bl (decide (19 = i)), V.bl (decide (20 = i))]) hm6).trans (Same.new' (o := .lst (((((([V.bl (decide (0 = i)), V.bl (decide (1 = i)), V.bl (decide (2 = i))] ++ [V.bl (decide (3 = i)), V.bl (decide (4 = i)), V.bl (decide (5 = i))]) ++ [V.bl (decide (6 = i)), V.bl (decide (7 = i)), V.bl (decide (8 = i))]) ++ [V.bl (decide (9 = i)), V.bl (decide (10 = i)), V.bl (decide (11 = i))]) ++ [V.bl (decide (12 = i)), V.bl (decide (13 = i)), V.bl (decide (14 = i))]) ++ [V.bl (decide (15 = i)), V.bl (decide (16 = i)), V.bl (decide (17 = i))]) ++ [V.bl (decide (18 = i)), V.bl (decide (19 = i)), V.bl (decide (20 = i))])) hl6))
    have A6 : (upd (upd G6 m6 (.lst [V.bl (decide (18 = i)), V.bl (decide (19 = i)), V.bl (decide (20 = i))])) l6 (.lst (((((([V.bl (decide (0 = i)), V.bl (decide (1 = i)), V.bl (decide (2 = i))] ++ [V.bl (decide (3 = i)), V.bl (decide (4 = i)), V.bl (decide (5 = i))]) ++ [V.bl (decide (6 = i)), V.bl (decide (7 = i)), V.bl (decide (8 = i))]) ++ [V.bl (decide (9 = i)), V.bl (decide (10 = i)), V.bl (decide (11 = i))]) ++ [V.bl (decide (12 = i)), V.bl (decide (13 = i)), V.bl (decide (14 = i))]) ++ [V.bl (decide (15 = i)), V.bl (decide (16 = i)), V.bl (decide (17 = i))]) ++ [V.bl (decide (18 = i)), V.bl (decide (19 = i)), V.bl (decide (20 = i))]))) l6 = some (.lst (((((([V.bl (decide (0 = i)), V.bl (decide (1 = i)), V.bl (decide (2 = i))] ++ [V.bl (decide (3 = i)), V.bl (decide (4 = i)), V.bl (decide (5 = i))]) ++ [V.bl (decide (6 = i)), V.bl (decide (7 = i)), V.bl (decide (8 = i))]) ++ [V.bl (decide (9 = i)), V.bl (decide (10 = i)), V.bl (decide (11 = i))]) ++ [V.bl (decide (12 = i)), V.bl (decide (13 = i)), V.bl (decide (14 = i))]) ++ [V.bl (decide (15 = i)), V.bl (decide (16 = i)), V.bl (decide (17 = i))]) ++ [V.bl (decide (18 = i)), V.bl (decide (19 = i)), V.bl (decide (20 = i))])) := upd_same
    generalize upd (upd G6 m6 (.lst [V.bl (decide (18 = i)), V.bl (decide (19 = i)), V.bl (decide (20 = i))])) l6 (.lst (((((([V.bl (decide (0 = i)), V.bl (decide (1 = i)), V.bl (decide (2 = i))] ++ [V.bl (decide (3 = i)), V.bl (decide (4 = i)), V.bl (decide (5 = i))]) ++ [V.bl (decide (6 = i)), V.bl (decide (7 = i)), V.bl (decide (8 = i))]) ++ [V.bl (decide (9 = i)), V.bl (decide (10 = i)), V.bl (decide (11 = i))]) ++ [V.bl (decide (12 = i)), V.bl (decide (13 = i)), V.bl (decide (14 = i))]) ++ [V.bl (decide (15 = i)), V.bl (decide (16 = i)), V.bl (decide (17 = i))]) ++ [V.bl (decide (18 = i)), V.bl (decide (19 = i)), V.bl (decide (20 = i))])) = G7 at S7 A6 ⊢
    refine ⟨_, rfl, _, rfl, x, .ref (ca K "TooLong"), .ref (ca K "TooLong"), Cn K i, fs, decide (21 = i), rfl, he.up S7, E.exc i hi, (fun u r => r), E.kit i 21 hi (by decide), _, rfl, x, .ref (ca K "LimitExceeded"), .ref (ca K "LimitExceeded"), Cn K i, fs, decide (22 = i), rfl, he.up S7, E.exc i hi, (fun u r => r), E.kit i 22 hi (by decide), _, rfl, x, .ref (ca K "NothingToUndo"), .ref (ca K "NothingToUndo"), Cn K i, fs, decide (23 = i), rfl, he.up S7, E.exc i hi, (fun u r => r), E.kit i 23 hi (by decide), (by show 3 ≤ sizeLine; decide), fun m7 hm7 => ⟨l6, m7, _, _, rfl, rfl, (Same.new' hm7) _ _ A6, upd_same, (by show 21 + 3 ≤ sizeLine; decide), fun l7 hl7 => ?_⟩⟩
    have S8 := S7.trans ((Same.new' (o := .lst [V.bl (decide (21 = i)), V.bl (decide (22 = i)), V.bl (decide (23 = i))]) hm7).trans (Same.new' (o := .lst ((((((([V.bl (decide (0 = i)), V.bl (decide (1 = i)), V.bl (decide (2 = i))] ++ [V.bl (decide (3 = i)), V.bl (decide (4 = i)), V.bl (decide (5 = i))]) ++ [V.bl (decide (6 = i)), V.bl (decide (7 = i)), V.bl (decide (8 = i))]) ++ [V.bl (decide (9 = i)), V.bl (decide (10 = i)), V.bl (decide (11 = i))]) ++ [V.bl (decide (12 = i)), V.bl (decide (13 = i)), V.bl (decide (14 = i))]) ++ [V.bl (decide (15 = i)), V.bl (decide (16 = i)), V.bl (decide (17 = i))]) ++ [V.bl (decide (18 = i)), V.bl (decide (19 = i)), V.bl (decide (20 = i))]) ++ [V.bl (decide (21 = i)), V.bl (decide (22 = i)), V.bl (decide (23 = i))])) hl7))
    have A7 : (upd (upd G7 m7 (.lst [V.bl (decide (21 = i)), V.bl (decide (22 = i)), V.bl (decide (23 = i))])) l7 (.lst ((((((([V.bl (decide (0 = i)), V.bl (decide (1 = i)), V.bl (decide (2 = i))] ++ [V.bl (decide (3 = i)), V.bl (decide (4 = i)), V.bl (decide (5 = i))]) ++ [V.bl (decide (6 = i)), V.bl (decide (7 = i)), V.bl (decide (8 = i))]) ++ [V.bl (decide (9 = i)), V.bl (decide (10 = i)), V.bl (decide (11 = i))]) ++ [V.bl (decide (12 = i)), V.bl (decide (13 = i)), V.bl (decide (14 = i))]) ++ [V.bl (decide (15 = i)), V.bl (decide (16 = i)), V.bl (decide (17 = i))]) ++ [V.bl (decide (18 = i)), V.bl (decide (19 = i)), V.bl (decide (20 = i))]) ++ [V.bl (decide (21 = i)), V.bl (decide (22 = i)), V.bl (decide (23 = i))]))) l7 = some (.lst ((((((([V.bl (decide (0 = i)), V.bl (decide (1 = i)), V.bl (decide (2 = i))] ++ [V.bl (decide (3 = i)), V.bl (decide (4 = i)), V.bl (decide (5 = i))]) ++ [V.bl (decide (6 = i)), V.bl (decide (7 = i)), V.bl (decide (8 = i))]) ++ [V.bl (decide (9 = i)), V.bl (decide (10 = i)), V.bl (decide (11 = i))]) ++ [V.bl (decide (12 = i)), V.bl (decide (13 = i)), V.bl (decide (14 = i))]) ++ [V.bl (decide (15 = i)), V.bl (decide (16 = i)), V.bl (decide (17 = i))]) ++ [V.bl (decide (18 = i)), V.bl (decide (19 = i)), V.bl (decide (20 = i))]) ++ [V.bl (decide (21 = i)), V.bl (decide (22 = i)), V.bl (decide (23 = i))])) := upd_same
    generalize upd (upd G7 m7 (.lst [V.bl (decide (21 = i)), V.bl (decide (22 = i)), V.bl (decide (23 = i))])) l7 (.lst ((((((([V.bl (decide (0 = i)), V.bl (decide (1 = i)), V.bl (decide (2 = i))] ++ [V.bl (decide (3 = i)), V.bl (decide (4 = i)), V.bl (decide (5 = i))]) ++ [V.bl (decide (6 = i)), V.bl (decide (7 = i)), V.bl (decide (8 = i))]) ++ [V.bl (decide (9 = i)), V.bl (decide (10 = i)), V.bl (decide (11 = i))]) ++ [V.bl (decide (12 = i)), V.bl (decide (13 = i)), V.bl (decide (14 = i))]) ++ [V.bl (decide (15 = i)), V.bl (decide (16 = i)), V.bl (decide (17 = i))]) ++ [V.bl (decide (18 = i)), V.bl (decide (19 = i)), V.bl (decide (20 = i))]) ++ [V.bl (decide (21 = i)), V.bl (decide (22 = i)), V.bl (decide (23 = i))])) = G8 at S8 A7 ⊢
    refine ⟨_, rfl, _, rfl, x, .ref (ca K "NothingToRedo"), .ref (ca K "NothingToRedo"), Cn K i, fs, decide (24 = i), rfl, he.up S8, E.exc i hi, (fun u r => r), E.kit i 24 hi (by decide), _, rfl, x, .ref (ca K "NoTrial"), .ref (ca K "NoTrial"), Cn K i, fs, decide (25 = i), rfl, he.up S8, E.exc i hi, (fun u r => r), E.kit i 25 hi (by decide), _, rfl, x, .ref (ca K "NoSystem"), .ref (ca K "NoSystem"), Cn K i, fs, decide (26 = i), rfl, he.up S8, E.exc i hi, (fun u r => r), E.kit i 26 hi (by decide), (by show 3 ≤ sizeLine; decide), fun m8 hm8 => ⟨l7, m8, _, _, rfl, rfl, (Same.new' hm8) _ _ A7, upd_same, (by show 24 + 3 ≤ sizeLine; decide), fun l8 hl8 => ?_⟩⟩
    have S9 := S8.trans ((Same.new' (o := .lst [V.bl (decide (24 = i)), V.bl (decide (25 = i)), V.bl (decide (26 = i))]) hm8).trans (Same.new' (o := .lst (((((((([V.bl (decide (0 = i)), V.bl (decide (1 = i)), V.bl (decide (2 = i))] ++ [V.bl (decide (3 = i)), V.bl (decide (4 = i)), V.bl (decide (5 = i))]) ++ [V.bl (decide (6 = i)), V.bl (decide (7 = i)), V.bl (decide (8 = i))]) ++ [V.bl (decide (9 = i)), V.bl (decide (10 = i)), V.bl (decide (11 = i))]) ++ [V.bl (decide (12 = i)), V.bl (decide (13 = i)), V.bl (decide (14 = i))]) ++ [V.bl (decide (15 = i)), V.bl (decide (16 = i)), V.bl (decide (17 = i))]) ++ [V.bl (decide (18 = i)), V.bl (decide (19 = i)), V.bl (decide (20 = i))]) ++ [V.bl (decide (21 = i)), V.bl (decide (22 = i)), V.bl (decide (23 = i))]) ++ [V.bl (decide (24 = i)), V.bl (decide (25 = i)), V.bl (decide (26 = i))])) hl8))
    have A8 : (upd (upd G8 m8 (.lst [V.bl (decide (24 = i)), V.bl (decide (25 = i)), V.bl (decide (26 = i))])) l8 (.lst (((((((([V.bl (decide (0 = i)), V.bl (decide (1 = i)), V.bl (decide (2 = i))] ++ [V.bl (decide (3 = i)), V.bl (decide (4 = i)), V.bl (decide (5 = i))]) ++ [V.bl (decide (6 = i)), V.bl (decide (7 = i)), V.bl (decide (8 = i))]) ++ [V.bl (decide (9 = i)), V.bl (decide (10 = i)), V.bl (decide (11 = i))]) ++ [V.bl (decide (12 = i)), V.bl (decide (13 = i)), V.bl (decide (14 = i))]) ++ [V.bl (decide (15 = i)), V.bl (decide (16 = i)), V.bl (decide (17 = i))]) ++ [V.bl (decide (18 = i)), V.bl (decide (19 = i)), V.bl (decide (20 = i))]) ++ [V.bl (decide (21 = i)), V.bl (decide (22 = i)), V.bl (decide (23 = i))]) ++ [V.bl (decide (24 = i)), V.bl (decide (25 = i)), V.bl (decide (26 = i))]))) l8 = some (.lst (((((((([V.bl (decide (0 = i)), V.bl (decide (1 = i)), V.bl (decide (2 = i))] ++ [V.bl (decide (3 = i)), V.bl (decide (4 = i)), V.bl (decide (5 = i))]) ++ [V.bl (decide (6 = i)), V.bl (decide (7 = i)), V.bl (decide (8 = i))]) ++ [V.bl (decide (9 = i)), V.bl (decide (10 = i)), V.bl (decide (11 = i))]) ++ [V.bl (decide (12 = i)), V.bl (decide (13 = i)), V.bl (decide (14 = i))]) ++ [V.bl (decide (15 = i)), V.bl (decide (16 = i)), V.bl (decide (17 = i))]) ++ [V.bl (decide (18 = i)), V.bl (decide (19 = i)), V.bl (decide (20 = i))]) ++ [V.bl (decide (21 = i)), V.bl (decide (22 = i)), V.bl (decide (23 = i))]) ++ [V.bl (decide (24 = i)), V.bl (decide (25 = i)), V.bl (decide (26 = i))])) := upd_same
    generalize upd (upd G8 m8 (.lst [V.bl (decide (24 = i)), V.bl (decide (25 = i)), V.bl (decide (26 = i))])) l8 (.lst (((((((([V.bl (decide (0 = i)), V.bl (decide (1 = i)), V.bl (decide (2 = i))] ++ [V.bl (decide (3 = i)), V.bl (decide (4 = i)), V.bl (decide (5 = i))]) ++ [V.bl (decide (6 = i)), V.bl (decide (7 = i)), V.bl (decide (8 = i))]) ++ [V.bl (decide (9 = i)), V.bl (decide (10 = i)), V.bl (decide (11 = i))]) ++ [V.bl (decide (12 = i)), V.bl (decide (13 = i)), V.bl (decide (14 = i))]) ++ [V.bl (decide (15 = i)), V.bl (decide (16 = i)), V.bl (decide (17 = i))]) ++ [V.bl (decide (18 = i)), V.bl (decide (19 = i)), V.bl (decide (20 = i))]) ++ [V.bl (decide (21 = i)), V.bl (decide (22 = i)), V.bl (decide (23 = i))]) ++ [V.bl (decide (24 = i)), V.bl (decide (25 = i)), V.bl (decide (26 = i))])) = G9 at S9 A8 ⊢
    exact ⟨_, rfl, q l8 G9 S9 A8⟩
end
end K01
namespace K01
open PySem PySem.Spec PyProof.Rows L2
theorem boot_rep : bootBuiltins "repr" = some (.builtin "repr") := by decide +kernel
theorem boot_ValueError : bootBuiltins "ValueError" = some (.type "ValueError") := by decide +kernel
theorem boot_LookupError : bootBuiltins "LookupError" = some (.type "LookupError") := by decide +kernel
theorem boot_OverflowError : bootBuiltins "OverflowError" = some (.type "OverflowError") := by decide +kernel
theorem boot_RuntimeError : bootBuiltins "RuntimeError" = some (.type "RuntimeError") := by decide +kernel

def duesV : List V := (List.replicate 20 [V.int 0]).flatten ++ [.int 1, .int 2, .int 2, .int 3, .int 3, .int 3, .int 3]
theorem dues_at {i : Nat} (h : i < 27) : duesV[i]? = some (V.int (dues.getD i 0)) := by
  have z : ((List.range 27).all fun i => decide (duesV[i]? = some (V.int (dues.getD i 0)))) = true := by decide +kernel
  exact of_decide_eq_true (List.all_eq_true.mp z i (List.mem_range.mpr h))
mutual
theorem eqv_refl : ∀ d : PyData, d.hasDict = false → PyData.eqv d d = true
  | .none, _ => by simp [PyData.eqv]
  | .bool b, _ => by simp [PyData.eqv]
  | .int i, _ => by simp [PyData.eqv]
  | .str x, _ => by simp [PyData.eqv]
  | .list xs, h => by simp only [PyData.eqv]; exact eqvAll_refl xs (by simpa [PyData.hasDict] using h)
  | .tuple xs, h => by simp only [PyData.eqv]; exact eqvAll_refl xs (by simpa [PyData.hasDict] using h)
  | .dict _, h => by simp [PyData.hasDict] at h
theorem eqvAll_refl : ∀ ds : List PyData, PyData.hasDictAll ds = false → PyData.eqvAll ds ds = true
  | [], _ => by simp [PyData.eqvAll]
  | d :: ds, h => by
    simp [PyData.hasDictAll] at h
    simp [PyData.eqvAll, eqv_refl d h.1, eqvAll_refl ds h.2]
end
theorem bools_all {K : PySem.W.Frag} {H : Hp} : ∀ bs : List Bool, DpAll K H (bs.map V.bl) (bs.map PyData.bool) ∧ PyData.canLayAll0 (bs.map PyData.bool) = true ∧ PyData.depthAll (bs.map PyData.bool) ≤ 1 ∧ PyData.hasDictAll (bs.map PyData.bool) = false
  | [] => ⟨.nil, rfl, Nat.zero_le _, rfl⟩
  | b :: bs => by
    obtain ⟨h1, h2, h3, h4⟩ := bools_all (K := K) (H := H) bs
    refine ⟨.cons (.bl b) h1, by simp [PyData.canLayAll0, PyData.canLay0, h2], ?_, by simp [PyData.hasDictAll, PyData.hasDict, h4]⟩
    simp only [List.map_cons, PyData.depthAll, PyData.depth]
    omega
theorem bools_eq {K : PySem.W.Frag} {H : Hp} {a b : Addr} (bs : List Bool) {Q : VK} (ha : SqL K H a (bs.map V.bl)) (hb : SqL K H b (bs.map V.bl)) (q : Q (.bl false) H) : rNeD K (.ref a) (.ref b) H Q := by
  obtain ⟨h1, h2, h3, h4⟩ := bools_all (K := K) (H := H) bs
  have sh : SeqAt.shaped (.list (bs.map PyData.bool)) = true := by
    unfold SeqAt.shaped
    rw [show (PyData.list (bs.map PyData.bool)).canLay0 = true from by simp [PyData.canLay0, h2], decide_eq_true (show (PyData.list (bs.map PyData.bool)).depth ≤ 64 by simp only [PyData.depth]; omega)]
    rfl
  refine ⟨_, _, .lst ha h1, .lst hb h1, sh, sh, ?_⟩
  rw [eqv_refl _ (by simpa [PyData.hasDict] using h4)]
  exact q
def kbs (i : Nat) : List Bool := (List.range 27).map fun j => decide (j = i)
theorem kinds_eq (i : Nat) : kindsV i = (kbs i).map V.bl := rfl
def dbs (i : Nat) : List Bool := (List.range 4).map fun j : Nat => decide ((j : Int) = dues.getD i 0)
theorem dec_ii (a b : Int) (c : Prop) [Decidable c] (h : a = b ↔ c) : decide (V.int a = V.int b) = decide c := by
  rw [decide_eq_decide, ← h]
  exact ⟨fun z => by cases z; rfl, fun z => by rw [z]⟩
theorem kbs_at {j m : Nat} (h : m < 27) : ((kbs j).map V.bl)[m]? = some (V.bl (decide (V.int (0 + (m : Int)) = V.int (j : Int)))) := by
  rw [dec_ii _ _ (m = j) (by omega)]
  simp [kbs, h]
theorem dbs_at {j m : Nat} (h : m < 4) : ((dbs j).map V.bl)[m]? = some (V.bl (decide (V.int (0 + (m : Int)) = V.int (dues.getD j 0)))) := by
  rw [dec_ii _ _ ((m : Int) = dues.getD j 0) (by omega)]
  simp [dbs, h]
theorem new_to {H0 H1 H2 HF : Hp} {p : Addr} {o : HO} (h : H0 p = some o) (s : Same H1 H2) (t : ∀ b u, b ≠ p → H2 b = some u → HF b = some u) : Same (newOf H0 H1) HF := fun b u e => by
  obtain ⟨a, c⟩ := newOf_some e
  exact t b u (fun z => by rw [z, h] at a; cases a) (s b u c)
theorem iteGo {HA : Hp} {R : Hp → Prop} {Z : Hp → Prop} (h : R HA) (k : ∀ H, R H → Z H) : Z HA := k HA h
theorem dqa_rep {K : PySem.W.Frag} {H : Hp} {v : V} {d : PyData} (h : Dq K H v d) : ∀ n : Nat, DqA K H (List.replicate n v) (List.replicate n d)
  | 0 => .nil
  | n + 1 => .cons h (dqa_rep h n)
def spLaw (K : PySem.W.Frag) : Sp := fun vs H Q _ => ∃ (a : Addr) (ns : List Int), vs = [.ref a] ∧ SqL K H a (ns.map V.int) ∧ ns.length ≤ 63 ∧ ∀ H', Q (.bl true) H'
section
variable {P : Program} {w : World} {K : PySem.W.Frag} {mg : Str → Option Value} {base : Heap} {f g : Addr} {fd gd : FuncData} {CX : CXT}
theorem sc_law : FnScope ["_law_script", "_law_due", "_law_k", "_law_pool_here", "_law_held", "_law_made_here", "_law_at", "_law_one", "_law_kinds_here", "_law_spot"] ["_law_script"] (defScope s_law) := ⟨rfl, rfl, rfl, by decide +kernel, rfl, by decide +kernel, by decide +kernel⟩
theorem ok_law (F : FnP K "law" s_law f fd) (E : EAll P K mg) (B : Blt mg) (hS : SysK K) {gP gD gC gM gN gF gK : Addr} {eP eD eC eM eN eF eK : FuncData} (GP : FnP K "_law_pool" s_law_pool gP eP) (mP : mg "_law_pool" = some (.ref gP)) (GD : FnP K "_law_draw" s_law_draw gD eD) (mD : mg "_law_draw" = some (.ref gD))
    (GC : FnP K "_law_choose" s_law_choose gC eC) (mC : mg "_law_choose" = some (.ref gC)) (GM : FnP K "_law_made" s_law_made gM eM) (mM : mg "_law_made" = some (.ref gM)) (GN : FnP K "_law_named" s_law_named gN eN) (mN : mg "_law_named" = some (.ref gN))
    (GF : FnP K "_law_fields" s_law_fields gF eF) (mF : mg "_law_fields" = some (.ref gF)) (GKi : FnP K "_law_kinds" s_law_kinds gK eK) (mKi : mg "_law_kinds" = some (.ref gK)) :
    FnG P w K mg base CX0 4 f fd ["_law_script"] (spLaw K) := by
  have bP : Binds K eP ["_law_script", "_law_k"] [] := GP.bindsN fun _ _ _ _ _ _ us hl => match us, hl with | [_, _], _ => rfl
  have bD : Binds K eD ["_law_pool_here", "_law_many"] [] := GD.bindsN fun _ _ _ _ _ _ us hl => match us, hl with | [_, _], _ => rfl
  have bC : Binds K eC ["_law_pool_here", "_law_items"] [] := GC.bindsN fun _ _ _ _ _ _ us hl => match us, hl with | [_, _], _ => rfl
  have bM : Binds K eM ["_law_held"] [] := GM.bindsN fun _ _ _ _ _ _ us hl => match us, hl with | [_], _ => rfl
  have bN : Binds K eN ["_law_held"] [] := GN.bindsN fun _ _ _ _ _ _ us hl => match us, hl with | [_], _ => rfl
  have bF : Binds K eF ["_law_made_here"] [] := GF.bindsN fun _ _ _ _ _ _ us hl => match us, hl with | [_], _ => rfl
  have bKi : Binds K eK ["_law_one"] [] := GKi.bindsN fun _ _ _ _ _ _ us hl => match us, hl with | [_], _ => rfl
  have FP : FnOk P w K mg base CX0 1 gP eP ["_law_script", "_law_k"] (spPool K) := ok_law_pool GP B.len B.int
  have FD : FnOk P w K mg base CX0 1 gD eD ["_law_pool_here", "_law_many"] spDraw := ok_law_draw GD B.int
  have FC : FnOk P w K mg base CX0 2 gC eC ["_law_pool_here", "_law_items"] (spChoose K) := ok_law_choose GC GD mD B.len B.int
  have FM : FnOk P w K mg base CX0 2 gM eM ["_law_held"] (spMade K) := ok_law_made GM E
  have FN : FnOk P w K mg base CX0 2 gN eN ["_law_held"] (spMade K) := ok_law_named GN E
  have FF : FnOk P w K mg base CX0 1 gF eF ["_law_made_here"] (spFields K) := ok_law_fields GF E
  have FKi : FnOk P w K mg base CX0 1 gK eK ["_law_one"] (spKinds K) := ok_law_kinds GKi E B
  refine F.okG sc_law (fun vs H Q E h => ?_) (fun cdv A outer s H vs Q Ex hgd hr h => ?_)
  · obtain ⟨_, _, rfl, _⟩ := h
    rfl
  · obtain ⟨a, ns, rfl, hSq, hlen, q⟩ := h
    have hu := hr.units
    have hr1 := hr.mono (by decide : 1 ≤ 3)
    have hr2 := hr.mono (by decide : 2 ≤ 3)
    refine ⟨_, PSs.nox (pss_cons (ps_set (i := 1) sc_law.nd rfl (Or.inr rfl) (pe_op op_cat (pe_op op_rep (pe_lst (pa_cons pe_int pa_nil)) pe_int) (pe_lst (pa_cons pe_int (pa_cons pe_int (pa_cons pe_int (pa_cons pe_int (pa_cons pe_int (pa_cons pe_int (pa_cons pe_int pa_nil))))))))))
        (pss_cons (ps_for PassesOwn.never rfl (pi_range1 rfl B.range (pa_cons (pe_callB (call_max2 rfl) (by rfl) B.max (by decide +kernel) (pa_cons pe_int (pa_cons (pe_callB (call_min2 rfl) (by rfl) B.min (by decide +kernel) (pa_cons (pe_callB call_len (by rfl) B.len (by decide +kernel) (pa_cons (pv 0) pa_nil)) (pa_cons pe_int pa_nil))) pa_nil))) pa_nil)) (pg_name (i := 2) sc_law.nd rfl (Or.inl rfl))
        (pss_cons (ps_set (i := 3) sc_law.nd rfl (Or.inl rfl) (pe_call FP hr1 rfl mP GP.kp bP .nil pass0 (pa_cons (pv 0) (pa_cons (pv 2) pa_nil))))
        (pss_cons (ps_set (i := 4) sc_law.nd rfl (Or.inl rfl) (pe_call FC hr2 rfl mC GC.kp bC .nil pass0 (pa_cons (pv 3) (pa_cons (pe_lst (pa_cons pl_non (pa_cons pl_int (pa_cons pl_neg (pa_cons pl_str (pa_cons (pl_tup (pla_cons pl_int (pla_cons pl_int pla_nil))) (pa_cons (pl_lst (pla_cons pl_int pla_nil)) (pa_cons pl_dct (pa_cons pl_bl (pa_cons (pe_call FD hr1 rfl mD GD.kp bD .nil pass0 (pa_cons (pv 3) (pa_cons (pe_op op_pow pe_int pe_int) pa_nil))) pa_nil)))))))))) pa_nil))))
        (pss_one (ps_for PassesOwn.never rfl (pi_list (pe_lst (pa_cons (pe_call FM hr2 rfl mM GM.kp bM .nil pass0 (pa_cons (pv 4) pa_nil)) (pa_cons (pe_call FN hr2 rfl mN GN.kp bN .nil pass0 (pa_cons (pv 4) pa_nil)) pa_nil)))) (pg_name (i := 5) sc_law.nd rfl (Or.inl rfl))
        (pss_cons (ps_if (PW.pt (pw_or (pt_cmpR op_ne (pe_callB (id := "repr") (r := rReprQ K) (by exact call_reprQ hS hgd hu) rfl B.repr boot_rep (pa_cons (pe_call FF hr1 rfl mF GF.kp bF .nil pass0 (pa_cons (pv 5) pa_nil)) pa_nil)) (pe_callB (id := "repr") (r := rReprQ K) (by exact call_reprQ hS hgd hu) rfl B.repr boot_rep (pa_cons (pe_op op_rep (pe_lst (pa_cons (pv 4) pa_nil)) pe_int) pa_nil)) (nomark _)) (pw_or1 (pt_cmpR op_ne (pe_errF (pe_ix ix_list (pv 5) pe_int (fun _ _ => rfl))) pe_str (nomark _))))) (pss_one (ps_ret pe_bl)) pss_nil)
        (pss_one (ps_for PassesOwn.never rfl (pi_enum rfl B.enumerate (pa_cons (pv 5) pa_nil)) (pg_tup rfl (pgs_cons (pg_name (i := 6) sc_law.nd rfl (Or.inr rfl)) (pgs_cons (pg_name (i := 7) sc_law.nd rfl (Or.inl rfl)) pgs_nil)))
        (pss_cons (ps_set (i := 8) sc_law.nd rfl (Or.inl rfl) (pe_lst (pa_cons (pe_callB call_isV rfl B.isinstance boot_isi (pa_cons (pv 7) (pa_cons (pe_bltn (v := .ty "ValueError") rfl B.ValueError boot_ValueError rfl) pa_nil)) isi_ne isi_db) (pa_cons (pe_callB call_isV rfl B.isinstance boot_isi (pa_cons (pv 7) (pa_cons (pe_bltn (v := .ty "LookupError") rfl B.LookupError boot_LookupError rfl) pa_nil)) isi_ne isi_db) (pa_cons (pe_callB call_isV rfl B.isinstance boot_isi (pa_cons (pv 7) (pa_cons (pe_bltn (v := .ty "OverflowError") rfl B.OverflowError boot_OverflowError rfl) pa_nil)) isi_ne isi_db) pa_nil)))))
        (pss_cons (ps_expr (pe_bm PySem.F.plainAttrs_list PySem.F.slot_list_append PySem.F.type_list_append mt_append (pv 8) (pa_cons (pe_callB call_isV rfl B.isinstance boot_isi (pa_cons (pv 7) (pa_cons (pe_bltn (v := .ty "RuntimeError") rfl B.RuntimeError boot_RuntimeError rfl) pa_nil)) isi_ne isi_db) pa_nil)))
        (pss_cons (ps_if (pt_cmpR (op_neD hu) (pe_call FKi hr1 rfl mKi GKi.kp bKi .nil pass0 (pa_cons (pv 7) pa_nil)) (pe_lc (own := [("_law_spot", 9)]) (g := gName 9) (tt := tYes) rfl sc_law.nd (pi_range1 rfl B.range (pa_cons pe_int pa_nil)) (blkOk_by (N := ["_law_script", "_law_due", "_law_k", "_law_pool_here", "_law_held", "_law_made_here", "_law_at", "_law_one", "_law_kinds_here", "_law_spot"]) (sc := defScope s_law) (by decide +kernel)) (fun _ _ _ _ _ => pg_name (i := 9) sc_law.nd rfl (Or.inl rfl)) (fun _ _ _ _ _ => pts_nil) (fun _ _ _ _ _ => (pe_cmpR op_eq (pv 9) (pv 6) (nomark _)))) (nomark _)) (pss_one (ps_ret pe_bl)) pss_nil)
        (pss_one (ps_if (pt_cmpR (op_neD hu) (pv 8) (pe_lc (own := [("_law_spot", 9)]) (g := gName 9) (tt := tYes) rfl sc_law.nd (pi_range1 rfl B.range (pa_cons pe_int pa_nil)) (blkOk_by (N := ["_law_script", "_law_due", "_law_k", "_law_pool_here", "_law_held", "_law_made_here", "_law_at", "_law_one", "_law_kinds_here", "_law_spot"]) (sc := defScope s_law) (by decide +kernel)) (fun _ _ _ _ _ => pg_name (i := 9) sc_law.nd rfl (Or.inl rfl)) (fun _ _ _ _ _ => pts_nil) (fun _ _ _ _ _ => (pe_cmpR op_eq (pv 9) (pe_ix (r := rIxL K) (by exact ix_list) (pv 1) (pv 6) (fun _ _ => rfl)) (nomark _)))) (nomark _)) (pss_one (ps_ret pe_bl)) pss_nil)))))))))))))
        (pss_one (ps_ret pe_bl)))), ?_⟩
    have hJ : ∀ L : Int, 1 ≤ (if (if (4 : Int) < L then 4 else L) > 1 then (if (4 : Int) < L then 4 else L) else 1) ∧ (if (if (4 : Int) < L then 4 else L) > 1 then (if (4 : Int) < L then 4 else L) else 1) ≤ 4 := fun L => by
      split <;> split <;> omega
    refine ⟨(by show 1 ≤ sizeLine; decide), fun x0 hx0 => ⟨x0, 20, [.int 0], rfl, rfl, upd_same, (by decide), (by decide), (by show 1 * 20 ≤ sizeLine; decide), fun x1 hx1 => ⟨(by show 7 ≤ sizeLine; decide), fun x2 hx2 => ⟨x1, x2, _, _, rfl, rfl, (Same.new' hx2) _ _ upd_same, upd_same, (by show 20 + 7 ≤ sizeLine; decide), fun ad had => ?_⟩⟩⟩⟩
    have S0 := ((Same.new' (o := .lst [.int 0]) hx0).trans (Same.new' (o := .lst ((List.replicate 20 [V.int 0]).flatten)) hx1)).trans ((Same.new' (o := .lst [.int 1, .int 2, .int 2, .int 3, .int 3, .int 3, .int 3]) hx2).trans (Same.new' (o := .lst duesV) had))
    have hd0 : (upd (upd (upd (upd H x0 (.lst [.int 0])) x1 (.lst ((List.replicate 20 [V.int 0]).flatten))) x2 (.lst [.int 1, .int 2, .int 2, .int 3, .int 3, .int 3, .int 3])) ad (.lst duesV)) ad = some (.lst duesV) := upd_same
    have hS0 := S0.seq hSq
    change _ at hS0
    refine iteGo (HA := upd (upd (upd (upd H x0 (.lst [.int 0])) x1 (.lst ((List.replicate 20 [V.int 0]).flatten))) x2 (.lst [.int 1, .int 2, .int 2, .int 3, .int 3, .int 3, .int 3])) ad (.lst duesV)) (R := fun HA => HA ad = some (.lst duesV) ∧ SqL K HA a (ns.map V.int)) ⟨hd0, hS0⟩ ?_
    rintro HA ⟨hdA, hSA⟩
    refine ⟨_, rfl, _, (ns.map V.int).length, rfl, .inl ⟨_, hSA, rfl⟩, _, _, rfl, _, _, rfl, _, rfl, (by have := (hJ ((ns.map V.int).length : Int)).1; omega), (by have := (hJ ((ns.map V.int).length : Int)).2; omega), for_range
      (fun _ σ Hc => SqL K Hc a (ns.map V.int) ∧ Hc ad = some (.lst duesV) ∧ ∃ o2 o3 o4 o5 o6 o7 o8 o9, σ = [some (.ref a), some (.ref ad), o2, o3, o4, o5, o6, o7, o8, o9]) ⟨hSA, hdA, _, _, _, _, _, _, _, _, rfl⟩ ?_ ?_⟩
    · rintro i σ Hc hi ⟨hSc, hdc, o2, o3, o4, o5, o6, o7, o8, o9, rfl⟩
      have hi4 : i < 4 := by
        have := (hJ ((ns.map V.int).length : Int)).2
        omega
      refine ⟨_, rfl, _, rfl, a, ns, _, rfl, hSc, by omega, by omega, by omega, fun p c z hp hz0 hz1 => ?_⟩
      refine ⟨_, rfl, fun v0 H0 s0 d0 v1 H1 s1 d1 v2 H2 s2 d2 v3 H3 s3 d3 v4 H4 s4 d4 v5 H5 s5 d5 v6 H6 s6 d6 v7 H7 s7 d7 => ?_⟩
      have q0 : upd Hc p (poolO c z) p = some (poolO c z) := upd_same
      have q1 := s0 _ _ q0
      have q2 := s1 _ _ q1
      have q3 := s2 _ _ q2
      have q4 := s3 _ _ q3
      have q5 := s4 _ _ q4
      have q6 := s5 _ _ q5
      have q7 := s6 _ _ q6
      have q8 := s7 _ _ q7
      refine ⟨_, rfl, 10, 30, rfl, rfl, ⟨by decide, by decide, by decide⟩, p, 10 ^ 30, rfl, ⟨c, z, q8, hz0, hz1⟩, by decide, by decide, fun d c2 z2 g0 g1 g2 g3 => ⟨(by show 9 ≤ sizeLine; decide), fun l hl => ?_⟩⟩
      have hlp : l ≠ p := fun e => by rw [e, upd_same] at hl; cases hl
      refine ⟨p, l, _, rfl, ⟨c2, z2, (Same.new' hl) _ _ upd_same, g2, g3⟩, SqL.of upd_same, fun o => SqL.of (by rw [upd_ne hlp]; exact upd_same), (by simp), (by show 9 ≤ 1000; decide), fun x c3 z3 hx y0 y1 => ?_⟩
      have T : ∀ b u, b ≠ p → H7 b = some u → upd (upd (upd H7 p (poolO c2 z2)) l (.lst [v0, v1, v2, v3, v4, v5, v6, v7, .int d])) p (poolO c3 z3) b = some u := fun b u hb e => by
        have e2 : upd H7 p (poolO c2 z2) b = some u := by rw [upd_ne hb]; exact e
        rw [upd_ne hb, upd_ne (ne_of_none e2 hl)]
        exact e2
      have r6 := s7
      have r5 := s6.trans r6
      have r4 := s5.trans r5
      have r3 := s4.trans r4
      have r2 := s3.trans r3
      have r1 := s2.trans r2
      have r0 := s1.trans r1
      have sc : Same Hc (upd (upd (upd H7 p (poolO c2 z2)) l (.lst [v0, v1, v2, v3, v4, v5, v6, v7, .int d])) p (poolO c3 z3)) := fun b u e => T b u (ne_of_none e hp) ((s0.trans r0) b u (by rw [upd_ne (ne_of_none e hp)]; exact e))
      have HH : ∃ dd, Dq K (upd (upd (upd H7 p (poolO c2 z2)) l (.lst [v0, v1, v2, v3, v4, v5, v6, v7, .int d])) p (poolO c3 z3)) x dd ∧ Held dd := by
        simp only [List.mem_cons, List.not_mem_nil, or_false] at hx
        rcases hx with rfl | rfl | rfl | rfl | rfl | rfl | rfl | rfl | rfl
        · exact ⟨_, d0.up (new_to q0 r0 T), held_of (by decide +kernel)⟩
        · exact ⟨_, d1.up (new_to q1 r1 T), held_of (by decide +kernel)⟩
        · exact ⟨_, d2.up (new_to q2 r2 T), held_of (by decide +kernel)⟩
        · exact ⟨_, d3.up (new_to q3 r3 T), held_of (by decide +kernel)⟩
        · exact ⟨_, d4.up (new_to q4 r4 T), held_of (by decide +kernel)⟩
        · exact ⟨_, d5.up (new_to q5 r5 T), held_of (by decide +kernel)⟩
        · exact ⟨_, d6.up (new_to q6 r6 T), held_of (by decide +kernel)⟩
        · exact ⟨_, d7.up (new_to q7 (Same.refl _) T), held_of (by decide +kernel)⟩
        · exact ⟨_, .int d, held_int (by omega)⟩
      obtain ⟨dd, hdd, hh⟩ := HH
      have hSf := sc.seq hSc
      have hdf := sc _ _ hdc
      generalize upd (upd (upd H7 p (poolO c2 z2)) l (.lst [v0, v1, v2, v3, v4, v5, v6, v7, .int d])) p (poolO c3 z3) = HF at hdd hSf hdf ⊢
      clear sc T r0 r1 r2 r3 r4 r5 r6 s0 s1 s2 s3 s4 s5 s6 s7 d0 d1 d2 d3 d4 d5 d6 d7 hx q0 q1 q2 q3 q4 q5 q6 q7 q8
      refine ⟨_, rfl, _, rfl, fun ra wa G1 t1 a1 l1 e1 => ⟨_, rfl, _, rfl, fun rb wb G2 t2 a2 l2 e2 => ⟨(by show 2 ≤ sizeLine; decide), fun lm hlm => ?_⟩⟩⟩
      have hM := Same.new' (o := .lst [.ref ra, .ref rb]) hlm
      have a1' := hM _ _ (t2 _ _ a1)
      have a2' := hM _ _ a2
      have e1' := (e1.up t2).up hM
      have e2' := e2.up hM
      have hddM := hdd.up ((t1.trans t2).trans hM)
      have hSM := ((t1.trans t2).trans hM).seq hSf
      have hdM := ((t1.trans t2).trans hM) _ _ hdf
      have hlm' : upd G2 lm (.lst [.ref ra, .ref rb]) lm = some (.lst [.ref ra, .ref rb]) := upd_same
      generalize upd G2 lm (.lst [.ref ra, .ref rb]) = HM at a1' a2' e1' e2' hddM hSM hdM hlm' ⊢
      clear hM
      refine ⟨lm, rfl, ⟨_, SqL.of hlm'⟩, for_list (xs := [.ref ra, .ref rb]) (fun _ σ Hx => Same HM Hx ∧ ∃ o2 o3 o5 o6 o7 o8 o9, σ = [some (.ref a), some (.ref ad), o2, o3, some x, o5, o6, o7, o8, o9]) ⟨Same.refl HM, _, _, _, _, _, _, _, rfl⟩ (fun _ _ _ _ hx => SqL.of (hx.1 _ _ hlm')) ?_ ?_⟩
      · rintro n y σ Hx hy ⟨sx, o2, o3, o5, o6, o7, o8, o9, rfl⟩
        have hW : ∃ r ws, y = .ref r ∧ HM r = some (.lst ws) ∧ ws.length = 27 ∧ Errs K HM x 0 ws := by
          match n, hy with
          | 0, hy => exact ⟨ra, wa, (Option.some.inj hy).symm, a1', l1, e1'⟩
          | 1, hy => exact ⟨rb, wb, (Option.some.inj hy).symm, a2', l2, e2'⟩
          | n + 2, hy => simp at hy
        obtain ⟨r, ws, rfl, hr0, hws, hE⟩ := hW
        obtain ⟨g1, g2, g3⟩ := held_list hh (n := 23) (by decide)
        refine ⟨_, rfl, r, x, ws, rfl, sx _ _ hr0, hws, hE.up sx, fun p1 K1 u1 b1 => ⟨_, .list (List.replicate 23 dd), rfl, .lst (SqL.of b1) (dqa_rep (hddM.up (sx.trans u1)) 23), g1, g2, g3, ?_⟩⟩
        refine ⟨_, rfl, (by show 1 ≤ sizeLine; decide), fun y1 hy1 => ⟨y1, 23, [x], rfl, rfl, upd_same, (by decide), (by decide), (by show 1 * 23 ≤ sizeLine; decide), fun y2 hy2 => ?_⟩⟩
        have hN := (Same.new' (o := .lst [x]) hy1).trans (Same.new' (o := .lst (List.replicate 23 x)) hy2)
        have b2 : (upd (upd K1 y1 (.lst [x])) y2 (.lst (List.replicate 23 x))) y2 = some (.lst (List.replicate 23 x)) := upd_same
        refine iteGo (HA := upd (upd K1 y1 (.lst [x])) y2 (.lst (List.replicate 23 x))) (R := fun Z => Same K1 Z ∧ Z y2 = some (.lst (List.replicate 23 x))) ⟨hN, b2⟩ ?_
        rintro K2 ⟨u2, b3⟩
        have sx2 := (sx.trans u1).trans u2
        obtain ⟨w4, hw4, he4⟩ := hE.at (j := 4) (by rw [hws]; decide)
        refine ⟨_, .list (List.replicate 23 dd), rfl, .lst (SqL.of b3) (dqa_rep (hddM.up sx2) 23), g1, g2, g3, rfl, _, rfl, iteNY rfl ?_⟩
        refine ⟨_, rfl, r, ws, 4, _, rfl, rfl, SqL.of (sx2 _ _ hr0), atI_nat hw4, ca K "InvalidPart", fsOf x 4, .str "other", he4.up sx2, xf_of E.e4, E.f4.no2, rfl, rfl, _, rfl, iteNY rfl ?_⟩
        refine ⟨_, rfl, r, ws, rfl, SqL.of (sx2 _ _ hr0), for_it walk_enum (fun _ σ Hy => Same K2 Hy ∧ ∃ o2 o3 o5 o6 o7 o8 o9, σ = [some (.ref a), some (.ref ad), o2, o3, some x, o5, o6, o7, o8, o9]) ⟨Same.refl K2, _, _, _, _, _, _, _, rfl⟩ (fun _ _ _ _ hy => SqL.of (hy.1 _ _ (sx2 _ _ hr0))) ?_ ?_⟩
        · rintro j y σ Hy Hy' hj ⟨sy, o2, o3, o5, o6, o7, o8, o9, rfl⟩ ⟨T, xa, xb, rfl, hT, rfl, ea, eb⟩
          cases ea
          have hj27 : j < 27 := by rw [← hws]; exact hj
          obtain ⟨wj, hwj, hej⟩ := hE.at (j := j) hj
          obtain rfl : wj = xb := Option.some.inj (hwj.symm.trans eb)
          rw [Nat.zero_add] at hej
          have sT := Same.new' (o := .tup [.int (j : Nat), wj]) hT
          have tT : upd Hy T (.tup [.int (j : Nat), wj]) T = some (.tup [.int (j : Nat), wj]) := upd_same
          have heT := hej.up ((sx2.trans sy).trans sT)
          have hdT := ((sx2.trans sy).trans sT) _ _ hdM
          have sKT := sy.trans sT
          generalize upd Hy T (.tup [.int (j : Nat), wj]) = HT at tT heT hdT sKT ⊢
          have hX := E.exc j hj27
          refine ⟨T, _, rfl, SqT.of tT, rfl, _, _, rfl, _, _, rfl, rfl, ?_⟩
          refine ⟨_, rfl, wj, .ty "ValueError", .type "ValueError", Cn K j, fsOf x j, _, rfl, heT, hX, (fun u r => r), E.bas j 0 hj27 (by decide), _, rfl, wj, .ty "LookupError", .type "LookupError", Cn K j, fsOf x j, _, rfl, heT, hX, (fun u r => r), E.bas j 1 hj27 (by decide), _, rfl, wj, .ty "OverflowError", .type "OverflowError", Cn K j, fsOf x j, _, rfl, heT, hX, (fun u r => r), E.bas j 2 hj27 (by decide), (by show 3 ≤ sizeLine; decide), fun lk hlk => ?_⟩
          have heL := heT.up (Same.new' (o := .lst [V.bl (decide (((0 : Nat) : Int) = dues.getD j 0)), V.bl (decide (((1 : Nat) : Int) = dues.getD j 0)), V.bl (decide (((2 : Nat) : Int) = dues.getD j 0))]) hlk)
          refine ⟨_, rfl, .inl ⟨rfl, _, SqL.of upd_same⟩, _, rfl, wj, .ty "RuntimeError", .type "RuntimeError", Cn K j, fsOf x j, _, rfl, heL, hX, (fun u r => r), E.bas j 3 hj27 (by decide), lk, _, _, rfl, rfl, upd_same, (by show 3 < sizeLine; decide), ?_⟩
          have sL : Same HT (upd (upd HT lk (.lst [V.bl (decide (((0 : Nat) : Int) = dues.getD j 0)), V.bl (decide (((1 : Nat) : Int) = dues.getD j 0)), V.bl (decide (((2 : Nat) : Int) = dues.getD j 0))])) lk (.lst ((dbs j).map V.bl))) := ((Same.refl HT).mut hlk).mut hlk
          refine iteGo (HA := upd (upd HT lk (.lst [V.bl (decide (((0 : Nat) : Int) = dues.getD j 0)), V.bl (decide (((1 : Nat) : Int) = dues.getD j 0)), V.bl (decide (((2 : Nat) : Int) = dues.getD j 0))])) lk (.lst ((dbs j).map V.bl))) (R := fun Z => Same HT Z ∧ Z lk = some (.lst ((dbs j).map V.bl))) ⟨sL, upd_same⟩ ?_
          rintro K3 ⟨u3, b3⟩
          refine ⟨_, rfl, wj, j, fsOf x j, rfl, hj27, heT.up u3, fun pk K4 u4 b4 => ?_⟩
          refine ⟨27, rfl, by decide, by decide, fun D hD => lc_map walk_range ((kbs j).map V.bl) rfl (by show 27 ≤ sizeLine; decide) (fun _ => trivial) (fun _ => rfl) (fun m y acc Q' hm hy k => ?_) ?_⟩
          · subst hy
            exact ⟨_, rfl, _, rfl, rfl, k _ (kbs_at hm)⟩
          · refine bools_eq (kbs j) (SqL.of ((Same.new' hD) _ _ (by rw [← kinds_eq]; exact b4))) (SqL.of upd_same) ⟨_, rfl, iteF ?_⟩
            have u5 := (u3.trans u4).trans (Same.new' (o := .lst ((kbs j).map V.bl)) hD)
            have b5 := ((u4.trans (Same.new' (o := .lst ((kbs j).map V.bl)) hD)) _ _ b3)
            generalize upd K4 D (.lst ((kbs j).map V.bl)) = K5 at u5 b5 ⊢
            refine ⟨_, rfl, 4, rfl, by decide, by decide, fun D2 hD2 => lc_map walk_range ((dbs j).map V.bl) rfl (by show 4 ≤ sizeLine; decide) (fun _ => trivial) (fun _ => rfl) (fun m y acc Q' hm hy k => ?_) ?_⟩
            · subst hy
              exact ⟨_, rfl, _, rfl, _, rfl, ad, duesV, j, _, rfl, rfl, SqL.of ((Same.new' hD2) _ _ (u5 _ _ hdT)), atI_nat (dues_at hj27), rfl, k _ (dbs_at hm)⟩
            · refine bools_eq (dbs j) (SqL.of ((Same.new' hD2) _ _ b5)) (SqL.of upd_same) ⟨_, rfl, iteF ?_⟩
              exact ⟨sKT.trans (u5.trans (Same.new' hD2)), _, _, _, _, _, _, _, rfl⟩
        · rintro σ Hy ⟨sy, o2, o3, o5, o6, o7, o8, o9, rfl⟩
          exact ⟨sx2.trans sy, _, _, _, _, _, _, _, rfl⟩
      · rintro σ Hx ⟨sx, o2, o3, o5, o6, o7, o8, o9, rfl⟩
        exact ⟨sx.seq hSM, sx _ _ hdM, _, _, _, _, _, _, _, _, rfl⟩
    · rintro σ Hc ⟨_, _, o2, o3, o4, o5, o6, o7, o8, o9, rfl⟩
      exact q Hc

end
end K01
namespace K01
open PySem PySem.Spec PyProof.Rows L2
def bmF (s : String) : List Value := if s = "ValueError" then PySem.MEX.bmV else if s = "LookupError" then PySem.MEX.bmL else if s = "OverflowError" then PySem.MEX.bmO else PySem.MEX.bmR
abbrev gd (x : Str) (st : Stmt) : He.DefD := ⟨(x, none), x, x, defArgs st, defBody st, defScope st, [], []⟩
def fn : List He.DefD := [gd "_law_pool" s_law_pool, gd "_law_draw" s_law_draw, gd "_law_choose" s_law_choose, gd "_law_made" s_law_made, gd "_law_named" s_law_named, gd "_law_fields" s_law_fields, gd "_law_kinds" s_law_kinds, gd "law" s_law]
def fa : List He.Fa := [.glo "_law_pool", .glo "_law_draw", .glo "_law_choose", .glo "_law_made", .glo "_law_named", .glo "_law_fields", .glo "_law_kinds", .glo "law", .free "isinstance", .free "int", .free "len", .free "range", .free "max", .free "min", .free "repr", .free "enumerate", .free "ValueError", .free "LookupError", .free "OverflowError", .free "RuntimeError"]
def x0 : MCH.ED := ⟨"InvalidName", ["value"], "ValueError", inClass (top 1) 0⟩
def x1 : MCH.ED := ⟨"InvalidPolicy", ["field"], "ValueError", inClass (top 2) 0⟩
def x2 : MCH.ED := ⟨"InvalidPolicies", ["number"], "ValueError", inClass (top 3) 0⟩
def x3 : MCH.ED := ⟨"InvalidServices", ["number"], "ValueError", inClass (top 4) 0⟩
def x4 : MCH.ED := ⟨"InvalidPart", ["service", "place"], "ValueError", inClass (top 5) 0⟩
def x5 : MCH.ED := ⟨"InvalidText", ["line"], "ValueError", inClass (top 6) 0⟩
def x6 : MCH.ED := ⟨"InvalidChoices", ["value"], "ValueError", inClass (top 7) 0⟩
def x7 : MCH.ED := ⟨"InvalidChoice", ["path"], "ValueError", inClass (top 8) 0⟩
def x8 : MCH.ED := ⟨"InvalidNumber", ["value"], "ValueError", inClass (top 9) 0⟩
def x9 : MCH.ED := ⟨"InvalidRows", ["value"], "ValueError", inClass (top 10) 0⟩
def x10 : MCH.ED := ⟨"InvalidTable", ["value"], "ValueError", inClass (top 11) 0⟩
def x11 : MCH.ED := ⟨"InvalidMeasure", ["value"], "ValueError", inClass (top 12) 0⟩
def x12 : MCH.ED := ⟨"InvalidLane", ["field"], "ValueError", inClass (top 13) 0⟩
def x13 : MCH.ED := ⟨"InvalidState", ["value"], "ValueError", inClass (top 14) 0⟩
def x14 : MCH.ED := ⟨"InvalidStep", ["value"], "ValueError", inClass (top 15) 0⟩
def x15 : MCH.ED := ⟨"InvalidLine", ["field"], "ValueError", inClass (top 16) 0⟩
def x16 : MCH.ED := ⟨"InvalidOffer", ["number"], "ValueError", inClass (top 17) 0⟩
def x17 : MCH.ED := ⟨"InvalidWish", ["number"], "ValueError", inClass (top 18) 0⟩
def x18 : MCH.ED := ⟨"InvalidQuestion", ["word"], "ValueError", inClass (top 19) 0⟩
def x19 : MCH.ED := ⟨"InvalidCommand", ["word"], "ValueError", inClass (top 20) 0⟩
def x20 : MCH.ED := ⟨"UnknownName", ["value"], "LookupError", inClass (top 21) 0⟩
def x21 : MCH.ED := ⟨"TooLong", ["service"], "OverflowError", inClass (top 22) 0⟩
def x22 : MCH.ED := ⟨"LimitExceeded", ["most"], "OverflowError", inClass (top 23) 0⟩
def x23 : MCH.ED := ⟨"NothingToUndo", [], "RuntimeError", inClass (top 24) 0⟩
def x24 : MCH.ED := ⟨"NothingToRedo", [], "RuntimeError", inClass (top 25) 0⟩
def x25 : MCH.ED := ⟨"NoTrial", [], "RuntimeError", inClass (top 26) 0⟩
def x26 : MCH.ED := ⟨"NoSystem", [], "RuntimeError", inClass (top 27) 0⟩
def xs : List MCH.ED := [x0, x1, x2, x3, x4, x5, x6, x7, x8, x9, x10, x11, x12, x13, x14, x15, x16, x17, x18, x19, x20, x21, x22, x23, x24, x25, x26]
def sysB (K : PySem.W.Frag) : Bool := match K.lookup sysModules with
  | some ⟨.type c, _, _, _⟩ => decide (c = "dict")
  | _ => false
def ex0 (K : PySem.W.Frag) : Bool := sysB K && (((List.range 27).all fun i => (List.range 27).all fun j => decide (PySem.W.kitOne K (.ref (Cn K i)) (.ref (Cn K j)) = some (decide (j = i)))) &&
  ((List.range 27).all fun i => (List.range 4).all fun j => decide (PySem.W.kitOne K (.ref (Cn K i)) (.type (bass.getD j "")) = some (decide ((j : Int) = dues.getD i 0)))))
abbrev R : PySem.W.OpenRow := PySem.W.OpenLaw.row PySem.Challenge.rw_mostcalls_k01_error_classes
abbrev hk : PySem.W.Hook := MCH.hookE 7 R.prog bmF fa fn xs ex0
def ob (s : PySem.W.SharedT) : MCH.AlM := MCH.obsE 7 R.prog bmF fa fn xs ex0 (HandSHeadRun.getT s)
theorem ob_eq (s : PySem.W.SharedT) : ob s = hk.obs s.abs := MCH.obsE_eq (HandSHeadRun.getT_eq s)
def names : List Str := (["InvalidName", "InvalidPolicy", "InvalidPolicies", "InvalidServices", "InvalidPart", "InvalidText", "InvalidChoices", "InvalidChoice", "InvalidNumber", "InvalidRows", "InvalidTable", "InvalidMeasure", "InvalidLane", "InvalidState"] : List Str) ++ ((["InvalidStep", "InvalidLine", "InvalidOffer", "InvalidWish", "InvalidQuestion", "InvalidCommand", "UnknownName", "TooLong", "LimitExceeded", "NothingToUndo", "NothingToRedo", "NoTrial", "NoSystem"] : List Str) ++ (["_law_pool", "_law_draw", "_law_choose", "_law_made", "_law_named", "_law_fields", "_law_kinds"] : List Str))
theorem run (w : World) : HandSHeadRun.RunEq R (PySem.W.view R.prog [36]) hk ob 20000 names w := by
  intro os
  kernel_rfl
theorem facts {w : World} {K : PySem.W.Frag} {h : Heap} {mg : Str → Option Value} {f : Addr} (X : K.In h) (G : h.Ns mainGlobals mg) (hfa : mg ("law" : Str) = some (.ref f)) (c : MCH.SaysEr R.prog bmF fa fn xs ex0 K) :
    ∃ fd : FuncData, (∀ (s : Shared) (v : Value), BindsTo s fd ⟨[v], []⟩ [("_law_script", v)]) ∧ ∀ base : Heap, K.In base → base.Ns mainGlobals mg → FnG R.prog w K mg base CX0 4 f fd ["_law_script"] (spLaw K) := by
  obtain ⟨e0, F0⟩ := c.d.def_ 0 (d := gd "_law_pool" s_law_pool) rfl
  obtain ⟨e1, F1⟩ := c.d.def_ 1 (d := gd "_law_draw" s_law_draw) rfl
  obtain ⟨e2, F2⟩ := c.d.def_ 2 (d := gd "_law_choose" s_law_choose) rfl
  obtain ⟨e3, F3⟩ := c.d.def_ 3 (d := gd "_law_made" s_law_made) rfl
  obtain ⟨e4, F4⟩ := c.d.def_ 4 (d := gd "_law_named" s_law_named) rfl
  obtain ⟨e5, F5⟩ := c.d.def_ 5 (d := gd "_law_fields" s_law_fields) rfl
  obtain ⟨e6, F6⟩ := c.d.def_ 6 (d := gd "_law_kinds" s_law_kinds) rfl
  obtain ⟨e7, F7⟩ := c.d.def_ 7 (d := gd "law" s_law) rfl
  have e := hfa.symm.trans (He.glo_ok X G (c.d.fact 7 (f := .glo "law") rfl))
  cases e
  have htop : (R.prog.main.scope.names.lookup ("super" : Str)).isSome = false := by decide +kernel
  obtain ⟨w1, w2⟩ := He.ba c.e
  obtain ⟨w3, w4⟩ := He.ba w2
  have hS : SysK K := by
    unfold sysB at w1
    split at w1
    · rename_i c' d' a' b' e'
      exact ⟨_, e', congrArg Value.type (of_decide_eq_true w1)⟩
    · cases w1
  obtain ⟨z0, y0⟩ := c.x x0 (by simp [xs])
  obtain ⟨T0, n0, b0⟩ := MCH.eB_ok X G z0 htop PySem.MEX.baseV
  have U0 : PySem.MEX.EFn1 R.prog K (ca K "InvalidName") (fa_ K "InvalidName") "value" := MCH.eFn1_ok b0 n0 y0 fok_value rfl rfl rfl rfl rfl
  obtain ⟨z1, y1⟩ := c.x x1 (by simp [xs])
  obtain ⟨T1, n1, b1⟩ := MCH.eB_ok X G z1 htop PySem.MEX.baseV
  have U1 : PySem.MEX.EFn1 R.prog K (ca K "InvalidPolicy") (fa_ K "InvalidPolicy") "field" := MCH.eFn1_ok b1 n1 y1 fok_field rfl rfl rfl rfl rfl
  obtain ⟨z2, y2⟩ := c.x x2 (by simp [xs])
  obtain ⟨T2, n2, b2⟩ := MCH.eB_ok X G z2 htop PySem.MEX.baseV
  have U2 : PySem.MEX.EFn1 R.prog K (ca K "InvalidPolicies") (fa_ K "InvalidPolicies") "number" := MCH.eFn1_ok b2 n2 y2 fok_number rfl rfl rfl rfl rfl
  obtain ⟨z3, y3⟩ := c.x x3 (by simp [xs])
  obtain ⟨T3, n3, b3⟩ := MCH.eB_ok X G z3 htop PySem.MEX.baseV
  have U3 : PySem.MEX.EFn1 R.prog K (ca K "InvalidServices") (fa_ K "InvalidServices") "number" := MCH.eFn1_ok b3 n3 y3 fok_number rfl rfl rfl rfl rfl
  obtain ⟨z4, y4⟩ := c.x x4 (by simp [xs])
  obtain ⟨T4, n4, b4⟩ := MCH.eB_ok X G z4 htop PySem.MEX.baseV
  have U4 : PySem.MEX.EFn2 R.prog K (ca K "InvalidPart") (fa_ K "InvalidPart") "service" "place" := MCH.eFn2_ok b4 n4 y4 fok2 rfl rfl rfl rfl rfl
  obtain ⟨z5, y5⟩ := c.x x5 (by simp [xs])
  obtain ⟨T5, n5, b5⟩ := MCH.eB_ok X G z5 htop PySem.MEX.baseV
  have U5 : PySem.MEX.EFn1 R.prog K (ca K "InvalidText") (fa_ K "InvalidText") "line" := MCH.eFn1_ok b5 n5 y5 fok_line rfl rfl rfl rfl rfl
  obtain ⟨z6, y6⟩ := c.x x6 (by simp [xs])
  obtain ⟨T6, n6, b6⟩ := MCH.eB_ok X G z6 htop PySem.MEX.baseV
  have U6 : PySem.MEX.EFn1 R.prog K (ca K "InvalidChoices") (fa_ K "InvalidChoices") "value" := MCH.eFn1_ok b6 n6 y6 fok_value rfl rfl rfl rfl rfl
  obtain ⟨z7, y7⟩ := c.x x7 (by simp [xs])
  obtain ⟨T7, n7, b7⟩ := MCH.eB_ok X G z7 htop PySem.MEX.baseV
  have U7 : PySem.MEX.EFn1 R.prog K (ca K "InvalidChoice") (fa_ K "InvalidChoice") "path" := MCH.eFn1_ok b7 n7 y7 fok_path rfl rfl rfl rfl rfl
  obtain ⟨z8, y8⟩ := c.x x8 (by simp [xs])
  obtain ⟨T8, n8, b8⟩ := MCH.eB_ok X G z8 htop PySem.MEX.baseV
  have U8 : PySem.MEX.EFn1 R.prog K (ca K "InvalidNumber") (fa_ K "InvalidNumber") "value" := MCH.eFn1_ok b8 n8 y8 fok_value rfl rfl rfl rfl rfl
  obtain ⟨z9, y9⟩ := c.x x9 (by simp [xs])
  obtain ⟨T9, n9, b9⟩ := MCH.eB_ok X G z9 htop PySem.MEX.baseV
  have U9 : PySem.MEX.EFn1 R.prog K (ca K "InvalidRows") (fa_ K "InvalidRows") "value" := MCH.eFn1_ok b9 n9 y9 fok_value rfl rfl rfl rfl rfl
  obtain ⟨z10, y10⟩ := c.x x10 (by simp [xs])
  obtain ⟨T10, n10, b10⟩ := MCH.eB_ok X G z10 htop PySem.MEX.baseV
  have U10 : PySem.MEX.EFn1 R.prog K (ca K "InvalidTable") (fa_ K "InvalidTable") "value" := MCH.eFn1_ok b10 n10 y10 fok_value rfl rfl rfl rfl rfl
  obtain ⟨z11, y11⟩ := c.x x11 (by simp [xs])
  obtain ⟨T11, n11, b11⟩ := MCH.eB_ok X G z11 htop PySem.MEX.baseV
  have U11 : PySem.MEX.EFn1 R.prog K (ca K "InvalidMeasure") (fa_ K "InvalidMeasure") "value" := MCH.eFn1_ok b11 n11 y11 fok_value rfl rfl rfl rfl rfl
  obtain ⟨z12, y12⟩ := c.x x12 (by simp [xs])
  obtain ⟨T12, n12, b12⟩ := MCH.eB_ok X G z12 htop PySem.MEX.baseV
  have U12 : PySem.MEX.EFn1 R.prog K (ca K "InvalidLane") (fa_ K "InvalidLane") "field" := MCH.eFn1_ok b12 n12 y12 fok_field rfl rfl rfl rfl rfl
  obtain ⟨z13, y13⟩ := c.x x13 (by simp [xs])
  obtain ⟨T13, n13, b13⟩ := MCH.eB_ok X G z13 htop PySem.MEX.baseV
  have U13 : PySem.MEX.EFn1 R.prog K (ca K "InvalidState") (fa_ K "InvalidState") "value" := MCH.eFn1_ok b13 n13 y13 fok_value rfl rfl rfl rfl rfl
  obtain ⟨z14, y14⟩ := c.x x14 (by simp [xs])
  obtain ⟨T14, n14, b14⟩ := MCH.eB_ok X G z14 htop PySem.MEX.baseV
  have U14 : PySem.MEX.EFn1 R.prog K (ca K "InvalidStep") (fa_ K "InvalidStep") "value" := MCH.eFn1_ok b14 n14 y14 fok_value rfl rfl rfl rfl rfl
  obtain ⟨z15, y15⟩ := c.x x15 (by simp [xs])
  obtain ⟨T15, n15, b15⟩ := MCH.eB_ok X G z15 htop PySem.MEX.baseV
  have U15 : PySem.MEX.EFn1 R.prog K (ca K "InvalidLine") (fa_ K "InvalidLine") "field" := MCH.eFn1_ok b15 n15 y15 fok_field rfl rfl rfl rfl rfl
  obtain ⟨z16, y16⟩ := c.x x16 (by simp [xs])
  obtain ⟨T16, n16, b16⟩ := MCH.eB_ok X G z16 htop PySem.MEX.baseV
  have U16 : PySem.MEX.EFn1 R.prog K (ca K "InvalidOffer") (fa_ K "InvalidOffer") "number" := MCH.eFn1_ok b16 n16 y16 fok_number rfl rfl rfl rfl rfl
  obtain ⟨z17, y17⟩ := c.x x17 (by simp [xs])
  obtain ⟨T17, n17, b17⟩ := MCH.eB_ok X G z17 htop PySem.MEX.baseV
  have U17 : PySem.MEX.EFn1 R.prog K (ca K "InvalidWish") (fa_ K "InvalidWish") "number" := MCH.eFn1_ok b17 n17 y17 fok_number rfl rfl rfl rfl rfl
  obtain ⟨z18, y18⟩ := c.x x18 (by simp [xs])
  obtain ⟨T18, n18, b18⟩ := MCH.eB_ok X G z18 htop PySem.MEX.baseV
  have U18 : PySem.MEX.EFn1 R.prog K (ca K "InvalidQuestion") (fa_ K "InvalidQuestion") "word" := MCH.eFn1_ok b18 n18 y18 fok_word rfl rfl rfl rfl rfl
  obtain ⟨z19, y19⟩ := c.x x19 (by simp [xs])
  obtain ⟨T19, n19, b19⟩ := MCH.eB_ok X G z19 htop PySem.MEX.baseV
  have U19 : PySem.MEX.EFn1 R.prog K (ca K "InvalidCommand") (fa_ K "InvalidCommand") "word" := MCH.eFn1_ok b19 n19 y19 fok_word rfl rfl rfl rfl rfl
  obtain ⟨z20, y20⟩ := c.x x20 (by simp [xs])
  obtain ⟨T20, n20, b20⟩ := MCH.eB_ok X G z20 htop PySem.MEX.baseL
  have U20 : PySem.MEX.EFn1 R.prog K (ca K "UnknownName") (fa_ K "UnknownName") "value" := MCH.eFn1_ok b20 n20 y20 fok_value rfl rfl rfl rfl rfl
  obtain ⟨z21, y21⟩ := c.x x21 (by simp [xs])
  obtain ⟨T21, n21, b21⟩ := MCH.eB_ok X G z21 htop PySem.MEX.baseO
  have U21 : PySem.MEX.EFn1 R.prog K (ca K "TooLong") (fa_ K "TooLong") "service" := MCH.eFn1_ok b21 n21 y21 fok_service rfl rfl rfl rfl rfl
  obtain ⟨z22, y22⟩ := c.x x22 (by simp [xs])
  obtain ⟨T22, n22, b22⟩ := MCH.eB_ok X G z22 htop PySem.MEX.baseO
  have U22 : PySem.MEX.EFn1 R.prog K (ca K "LimitExceeded") (fa_ K "LimitExceeded") "most" := MCH.eFn1_ok b22 n22 y22 fok_most rfl rfl rfl rfl rfl
  obtain ⟨z23, y23⟩ := c.x x23 (by simp [xs])
  obtain ⟨T23, n23, b23⟩ := MCH.eB_ok X G z23 htop PySem.MEX.baseR
  have U23 : PySem.MEX.EFn0 R.prog K (ca K "NothingToUndo") (fa_ K "NothingToUndo") := MCH.eFn0_ok b23 n23 y23 fok0 rfl rfl rfl rfl rfl
  obtain ⟨z24, y24⟩ := c.x x24 (by simp [xs])
  obtain ⟨T24, n24, b24⟩ := MCH.eB_ok X G z24 htop PySem.MEX.baseR
  have U24 : PySem.MEX.EFn0 R.prog K (ca K "NothingToRedo") (fa_ K "NothingToRedo") := MCH.eFn0_ok b24 n24 y24 fok0 rfl rfl rfl rfl rfl
  obtain ⟨z25, y25⟩ := c.x x25 (by simp [xs])
  obtain ⟨T25, n25, b25⟩ := MCH.eB_ok X G z25 htop PySem.MEX.baseR
  have U25 : PySem.MEX.EFn0 R.prog K (ca K "NoTrial") (fa_ K "NoTrial") := MCH.eFn0_ok b25 n25 y25 fok0 rfl rfl rfl rfl rfl
  obtain ⟨z26, y26⟩ := c.x x26 (by simp [xs])
  obtain ⟨T26, n26, b26⟩ := MCH.eB_ok X G z26 htop PySem.MEX.baseR
  have U26 : PySem.MEX.EFn0 R.prog K (ca K "NoSystem") (fa_ K "NoSystem") := MCH.eFn0_ok b26 n26 y26 fok0 rfl rfl rfl rfl rfl
  have EA : EAll R.prog K mg := { e0 := T0, f0 := U0, e1 := T1, f1 := U1, e2 := T2, f2 := U2, e3 := T3, f3 := U3, e4 := T4, f4 := U4, e5 := T5, f5 := U5, e6 := T6, f6 := U6, e7 := T7, f7 := U7, e8 := T8, f8 := U8, e9 := T9, f9 := U9, e10 := T10, f10 := U10, e11 := T11, f11 := U11, e12 := T12, f12 := U12, e13 := T13, f13 := U13, e14 := T14, f14 := U14, e15 := T15, f15 := U15, e16 := T16, f16 := U16, e17 := T17, f17 := U17, e18 := T18, f18 := U18, e19 := T19, f19 := U19, e20 := T20, f20 := U20, e21 := T21, f21 := U21, e22 := T22, f22 := U22, e23 := T23, f23 := U23, e24 := T24, f24 := U24, e25 := T25, f25 := U25, e26 := T26, f26 := U26, kit := fun i j hi hj => of_decide_eq_true (List.all_eq_true.mp (List.all_eq_true.mp w3 i (List.mem_range.mpr hi)) j (List.mem_range.mpr hj)), bas := fun i j hi hj => of_decide_eq_true (List.all_eq_true.mp (List.all_eq_true.mp w4 i (List.mem_range.mpr hi)) j (List.mem_range.mpr hj)) }
  have B : Blt mg := { isinstance := (He.free_ok X G (c.d.fact 8 (f := .free "isinstance") rfl)), int := (He.free_ok X G (c.d.fact 9 (f := .free "int") rfl)), len := (He.free_ok X G (c.d.fact 10 (f := .free "len") rfl)), range := (He.free_ok X G (c.d.fact 11 (f := .free "range") rfl)), max := (He.free_ok X G (c.d.fact 12 (f := .free "max") rfl)), min := (He.free_ok X G (c.d.fact 13 (f := .free "min") rfl)), repr := (He.free_ok X G (c.d.fact 14 (f := .free "repr") rfl)), enumerate := (He.free_ok X G (c.d.fact 15 (f := .free "enumerate") rfl)), ValueError := (He.free_ok X G (c.d.fact 16 (f := .free "ValueError") rfl)), LookupError := (He.free_ok X G (c.d.fact 17 (f := .free "LookupError") rfl)), OverflowError := (He.free_ok X G (c.d.fact 18 (f := .free "OverflowError") rfl)), RuntimeError := (He.free_ok X G (c.d.fact 19 (f := .free "RuntimeError") rfl)) }
  have b := FunD.bindsA (ps := ["_law_script"]) F7 fun _ _ _ _ _ _ us hl => match us, hl with | [_], _ => rfl
  refine ⟨e7, fun s v => b s [v] rfl, fun base _ _ => ?_⟩
  exact ok_law F7 EA B hS F0 (He.glo_ok X G (c.d.fact 0 (f := .glo "_law_pool") rfl)) F1 (He.glo_ok X G (c.d.fact 1 (f := .glo "_law_draw") rfl)) F2 (He.glo_ok X G (c.d.fact 2 (f := .glo "_law_choose") rfl)) F3 (He.glo_ok X G (c.d.fact 3 (f := .glo "_law_made") rfl)) F4 (He.glo_ok X G (c.d.fact 4 (f := .glo "_law_named") rfl)) F5 (He.glo_ok X G (c.d.fact 5 (f := .glo "_law_fields") rfl)) F6 (He.glo_ok X G (c.d.fact 6 (f := .glo "_law_kinds") rfl))
end K01
open PySem PySem.W PySem.Calls PyProof.Rows
set_option maxRecDepth 100000 in
set_option maxHeartbeats 0 in
theorem PySem.Challenge.cw_mostcalls_k01_error_classes_holds : PySem.Challenge.rw_mostcalls_k01_error_classes.Holds := by
  w_on; o_law
  refine HandSHeadRun.head_any (r := OpenLaw.row PySem.Challenge.rw_mostcalls_k01_error_classes) (q := view (OpenLaw.row PySem.Challenge.rw_mostcalls_k01_error_classes).prog [36]) (H := K01.hk) (ob := K01.ob) (M := 20000) (loose := K01.names) (d := HandSHeadRun.topDef (OpenLaw.row PySem.Challenge.rw_mostcalls_k01_error_classes).prog 36) (kwd := []) K01.ob_eq
    (by kernel_rfl) (fun s => by kernel_rfl) K01.run (by kernel_rfl) (by kernel_rfl) (by kernel_rfl) (by rfl) (by first | assumption | decide +kernel) (by decide +kernel) ⟨rfl, rfl, rfl, rfl, rfl, by decide +kernel⟩ ?hw ?hc
  case hw => w_witness2
  case hc =>
    refine L2.walk_ofG (l := PySem.Challenge.rw_mostcalls_k01_error_classes) (n := 63) (k := 4) (x := "_law_script") (CX := fun _ => L2.CX0) rfl (by decide) (by kernel_rfl) ⟨rfl, by decide, by decide⟩ ?F (fun _ _ _ _ _ z => z)
    intro w mg fa h Y G hmg0
    obtain ⟨K, KX, c⟩ := Y
    have hmg : mg ("law" : PySem.Str) = some (.ref fa) := by
      have e : (HandSHeadRun.topDef (OpenLaw.row PySem.Challenge.rw_mostcalls_k01_error_classes).prog 36).name = ("law" : PySem.Str) := by kernel_rfl
      rw [← e]
      exact hmg0
    obtain ⟨fd, hb, hF⟩ := K01.facts (w := w) KX G hmg c
    exact ⟨K, fd, K01.spLaw K, KX, hb, fun H a ns hl _ hS => ⟨a, ns, rfl, hS, hl, fun _ => rfl⟩, hF⟩
#print axioms PySem.Challenge.cw_mostcalls_k01_error_classes_holds
