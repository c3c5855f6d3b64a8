import PyProof.Rows.All
import Wide.All
import OpenK.AllK
import Wide.FinOn
import KE.KExcSuper
import HandS.Base
import HandS.Call
import HandS.Exc
import HandS.HeadWalk
import HandS.TryMany
import HandS.ExcField
import KE.KStateDown
import HandS.Words
import HandS.HeadHook1
import HandS.HeadHook2
import HandS.List
import HandS.Comp
import HandS.Iter
import HandS.Walk
import HandS.IsInst
import HandS.Evl
import PyProof.ReprReads
import HandS.Ends
import HandS.WordsExc
import HandS.Defaults
import HandS.HeadEnd
import PyProof.ReprRoads
import HandS.NoneIn
import PyProof.RulesMatch
import PyProof.RulesMatchSeq
import PyProof.Rows.MatchSeqLen
import HandS.ExcOwn
import HandS.MakeKwOnly
import HandS.Dict
import HandS.Text
import HandS.Steps
import HandS.Flow
import HandS.TupMul
import HandS.Head0
import HandS.Head1
import HandS.Head2
import PySem.Challenge.RW_mostcalls_k03_policies_refused
set_option Elab.async false
set_option linter.all false
set_option maxRecDepth 100000
set_option maxHeartbeats 4000000
namespace PySem
namespace MCX
open PySem.W PySem.Calls PyProof.Rows PySem.HandSPX
/-! ### an own error whose __init__ says super().__init__(f); self.f = f -/
def iA (f : Str) (p1 p2 : Pos) : Arguments := { posonlyargs := [], args := [{ arg := "self", annotation := none, pos := p1 }, { arg := f, annotation := none, pos := p2 }], vararg := none, kwonlyargs := [], kw_defaults := [], kwarg := none, defaults := [] }
def iB (f : Str) (q1 q2 q3 q4 q5 q6 q7 q8 q9 q10 : Pos) : List Stmt := [.Expr (.Call (.Attribute (.Call (.Name "super" q1) [] [] q2) "__init__" q3) [.Name f q4] [] q5) q6, .Assign [.Attribute (.Name "self" q7) f q8] (.Name f q9) q10]
def iS (f : Str) : Scope := { kind := .function, names := [(PySem.Str.ofString "self", .local), (f, .local), (PySem.Str.ofString "__class__", .free), (PySem.Str.ofString "super", .globalImplicit)], isGenerator := false, isCoroutine := false, more := [] }
structure FOk (f : Str) : Prop where
  dbg : (f == ("__debug__" : Str)) = false
  lf : (iS f).names.lookup f = some .local
  lc : (iS f).names.lookup ("__class__" : Str) = some .free
  ls : (iS f).names.lookup ("super" : Str) = some .globalImplicit
  ns : (("self" : Str) == f) = false
  bd : ∀ (qual : Str) (p1 p2 : Pos) (body : List Stmt) (doc pm : Value) (an : Option Addr) (cd ct : Value) (cc : Addr) (x v : Value), bindArgs (ksFn "__init__" qual (iA f p1 p2) body (iS f) .none .none doc pm an cd ct cc) ⟨[x, v], []⟩ = pure ([(("self" : Str), x), (f, v)] : List (Str × Value))
theorem fok_value : FOk "value" := ⟨by decide, rfl, rfl, rfl, by decide, fun _ _ _ _ _ _ _ _ _ _ _ _ => rfl⟩
theorem fok_field : FOk "field" := ⟨by decide, rfl, rfl, rfl, by decide, fun _ _ _ _ _ _ _ _ _ _ _ _ => rfl⟩
/-- what the written part says of the class at C and of its __init__ at fI -/
structure XTxt (prog : Program) (K : Frag) (mg : Str → Option Value) (nm f : Str) (C fI : Addr) : Prop where
  gC : mg nm = some (.ref C)
  fok : FOk f
  cls : ∃ nm q N bs bm sn sub ab col dd k0 k1 k2 k3 k5, K.lookup C = some (excClassObj nm q C N bs bm true sn sub ab col dd k0 k1 k2 k3 k5 "ValueError.__new__") ∧ refsVE bm = true
  sa : findIn K (.ref C) "__setattr__" = some (some (.builtin "object.__setattr__"))
  ga : findIn K (.ref C) "__getattribute__" = some (some (.builtin "BaseException.__getattribute__"))
  gg : findIn K (.ref C) "__getattr__" = some none
  noF : findIn K (.ref C) f = some none
  iC : findIn K (.ref C) "__init__" = some (some (.ref fI))
  tC : typeIn K (.ref fI) = some (.type "function")
  kC : keepIn K (.ref C) = true
  exC : subIn K (.ref C) (.type "BaseException") = some true
  veC : subIn K (.ref C) (.type "ValueError") = some true
  tyC : typeIn K (.ref C) = some (.type "type")
  hdC : hasDictIn K C = true
  te : exmOne K (.ref C) (.ref C) = some true
  mC : mroIn K C (.ref C) = some true
  su : ks_superIn K C C "__init__" = some (some (.builtin "ValueError.__init__"))
  tp : nsIn K cStatics "thirdparty.any" = some none
  noS : mg "super" = none
  top : (prog.main.scope.names.lookup ("super" : Str)).isSome = false
  fn : ∃ (qual : Str) (oc : Value) (od : Option Addr) (doc pm : Value) (an : Option Addr) (cda : Addr) (ct : Value) (cc : Addr) (osl : Array (Option Value)) (p1 p2 q1 q2 q3 q4 q5 q6 q7 q8 q9 q10 : Pos),
    K.lookup fI = some ⟨oc, od, .func (ksFn "__init__" qual (iA f p1 p2) (iB f q1 q2 q3 q4 q5 q6 q7 q8 q9 q10) (iS f) .none .none doc pm an (.ref cda) ct cc), osl⟩ ∧ codeIn K (.ref cda) qual = true ∧
    (∃ ccl cdd vs ccs file tf, K.lookup cda = some ⟨ccl, cdd, .fields vs, ccs⟩ ∧ vs[2]? = some (.str file tf) ∧ ((prog.main.file : Str) == file) = true) ∧
    (∃ cl cld csl, K.lookup cc = some ⟨cl, cld, .cell (some (.ref C)), csl⟩) ∧ (q3.endLine == q5.line) = true
/-- what __init__ leaves of a fresh exception at x -/
structure InitEnd (f : Str) (h h' : Heap) (x C dx t1 : Addr) (v : Value) : Prop where
  keep : ∀ b o, b ≠ x → h.get? b = some o → h'.get? b = some o
  obj : h'.get? x = some { cls := .ref C, dict := some dx, data := .fields #[.ref t1, .none, .none, .none, .bool false, .none] }
  dbig : h.objs.size ≤ dx
  dne : dx ≠ x
  ns : h'.Ns1 dx (fun y => if y = f then some v else none)
section
variable {prog : Program} {w : World} {A : Around} {E : Value → Shared → Prop} {R : Result → Shared → Prop} {s : Shared} {K : Frag} {mg : Str → Option Value} {nm f : Str} {C fI : Addr}
theorem sup_init (T : XTxt prog K mg nm f C fI) {x t0 : Addr} {v : Value} (X : K.In s.heap) (hlim : s.heap.NoLimit) (hx : s.heap.get? x = some (excO C t0)) (hnx : K.lookup x = none) (hroom : A.depth < recursionLimit)
    (hG : s.heap.Ns mainGlobals mg) (hB : ∃ mb, s.heap.Ns builtinsNs mb ∧ ∀ x : Str, x ≠ "__name__" → mb x = bootBuiltins x)
    (hq : ∀ h' tk dx t1, InitEnd f s.heap h' x C dx t1 v → R (.ok (.ret .none)) { s with heap := h', toks := tk }) :
    codeAny (model prog w) A (.call (.ref fI) ⟨[.ref x, v], []⟩) R s := by
  obtain ⟨qual, oc, od, doc, pm, an, cda, ct, cc, osl, p1, p2, q1, q2, q3, q4, q5, q6, q7, q8, q9, q10, hl, hcd, ⟨ccl, cdd, vs, ccs, file, tf, hcode, hvs, hfile⟩, ⟨cl, cld, csl, hcell⟩, hpos⟩ := T.fn
  obtain ⟨cnm, q, N, bs, bm, sn, sub, ab, col, dd, k0, k1, k2, k3, k5, hC, hbm⟩ := T.cls
  obtain ⟨mb, hBn, hBv⟩ := hB
  have hcl : clsIn K C = some { name := cnm, bases := bs, mro := .ref C :: bm, ns := N, qualname := q, hasDict := true, slotNames := sn, subclasses := sub, abstract := ab, collection := col, hasDel := false } := by unfold clsIn; rw [hC] <;> rfl
  obtain ⟨hp, g, d, tk, os⟩ := s
  refine ks_codeAny_call_defAt (fd := ksFn "__init__" qual (iA f p1 p2) (iB f q1 q2 q3 q4 q5 q6 q7 q8 q9 q10) (iS f) .none .none doc pm an (.ref cda) ct cc) (body := iB f q1 q2 q3 q4 q5 q6 q7 q8 q9 q10) (binds := [("self", .ref x), (f, v)]) hroom (X _ _ hl) rfl hlim (codeRec_of X hcd) rfl (BindsTo.of_eq (T.fok.bd _ _ _ _ _ _ _ _ _ _ _ _)) ?hce ?hlo (fun h₁ hns hk₁ => ?_) rfl rfl rfl
  case hce => intro y hy; simp only [iS, List.mem_cons, List.not_mem_nil, or_false] at hy; rcases hy with rfl | rfl | rfl | rfl <;> simp
  case hlo =>
    intro y hy
    simp only [List.mem_cons, List.not_mem_nil, or_false] at hy
    rcases hy with rfl | rfl
    · rfl
    · exact T.fok.lf
  have X₁ : K.In h₁ := X.keeps hk₁
  have hx₁ := hk₁ _ _ hx
  have mv : (fun y => ([("self", Value.ref x), (f, v)] : List (Str × Value)).reverse.lookup y) f = some v := by simp [List.lookup]
  have mself : (fun y => ([("self", Value.ref x), (f, v)] : List (Str × Value)).reverse.lookup y) "self" = some (.ref x) := by simp [List.lookup, T.fok.ns]
  have hns' : Heap.Ns h₁ hp.objs.size (fun y => ([("self", Value.ref x), (f, v)] : List (Str × Value)).reverse.lookup y) := hns
  have hcr := X₁ _ _ hC
  have I₁ : InstAt h₁ x (excO C t0) C none := ⟨hx₁, rfl, rfl, trivial⟩
  show _root_.PySem.wpAt _ _ _ (execs (iB f q1 q2 q3 q4 q5 q6 q7 q8 q9 q10) (ksEnv qual (iS f) hp.objs.size fI (.ref cda) cc)) _ _ _
  have hmc : ∀ ov, methodCall (.Call (.Name "super" q1) [] [] q2) "__init__" q3 q5 (ksEnv qual (iS f) hp.objs.size fI (.ref cda) cc) ov 1 (backTo q5 (starEach [.Name f q4] (ksEnv qual (iS f) hp.objs.size fI (.ref cda) cc))) [] = (do
      let (ff, first) ← holding [ov] (getMethod ov "__init__" (L2.plainOf (.Call (.Name "super" q1) [] [] q2) (ksEnv qual (iS f) hp.objs.size fI (.ref cda) cc)))
      callWith q5 ff first (backTo q5 (starEach [.Name f q4] (ksEnv qual (iS f) hp.objs.size fI (.ref cda) cc))) []) := fun ov => L2.mcall_line rfl hpos
  refine ks_wpAt_execs_cons (ks_wpAt_Expr_any (ks_wpAt_MethodCall (pl := L2.plainOf (.Call (.Name "super" q1) [] [] q2) (ksEnv qual (iS f) hp.objs.size fI (.ref cda) cc)) ?_ ?he))
  case he =>
    show (do
      let ov ← attributeBase (.Call (.Name "super" q1) [] [] q2) "__init__" (ksEnv qual (iS f) hp.objs.size fI (.ref cda) cc) (eval (.Call (.Name "super" q1) [] [] q2) (ksEnv qual (iS f) hp.objs.size fI (.ref cda) cc))
      standAt q3.atName
      methodCall (.Call (.Name "super" q1) [] [] q2) "__init__" q3 q5 (ksEnv qual (iS f) hp.objs.size fI (.ref cda) cc) ov 1 (backTo q5 (starEach [.Name f q4] (ksEnv qual (iS f) hp.objs.size fI (.ref cda) cc))) []) = _
    simp only [hmc]
  refine ks_wpAt_super_base (env := ksEnv qual (iS f) hp.objs.size fI (.ref cda) cc) (f := fI) (cc := cda) T.fok.ls T.fok.lc (by decide) rfl (X₁ _ _ hl) rfl rfl rfl (X₁ _ _ hcode) rfl hvs hfile T.top ?_
  refine ks_loadName_global rfl T.fok.ls (loadGlobal_builtin (env := ksEnv qual (iS f) hp.objs.size fI (.ref cda) cc) (hG.keeps hk₁) T.noS (hBn.keeps hk₁) ((hBv _ (by decide +kernel)).trans (by first | rfl | decide +kernel | kernel_rfl)) ⟨rfl, ?_⟩)
  refine wpAny_loadName_free rfl T.fok.lc rfl ⟨_, X₁ _ _ hcell, rfl⟩ ?_
  refine wpAny_loadName_local rfl rfl hns' mself ?_
  refine ks_wpAny_isType_cls (X₁ _ _ hC) rfl ⟨rfl, ?_⟩
  refine ks_wpAny_call_super (X₁ _ _ hC) rfl hx₁ rfl (fun c e => by cases e) (looks_mroIn X₁ T.mC) (fun h₂ e₂ k₂ => ?_)
  have X₂ : K.In h₂ := X₁.keeps k₂
  have hx₂ := k₂ _ _ hx₁
  have I₂ : InstAt h₂ x (excO C t0) C none := ⟨hx₂, rfl, rfl, trivial⟩
  have hns₂ := hns'.keeps k₂
  have hal : alongIn K "__init__" (((Value.ref C :: bm).dropWhile (· != .ref C)).drop 1) = some (some (.builtin "ValueError.__init__")) := by
    have z := T.su
    unfold ks_superIn at z
    rw [hcl] at z
    exact z
  refine kxs_getMethod kxs_ValueError (so := h₁.objs.size) (D := C) (x := x) (C := C) (l₀ := .ref C :: bm) (K := K) e₂ (looks_opaque X₂ T.tp) (fun A Q E s k q => wpAny_bind ((looks_clsIn X₂ hcl) A _ E s k (wpAny_pure q))) rfl X₂ hal (I₂.type.andThen (looks_subIn X₂ T.veC)) (ks_ne X₂ I₂ hcl) (by decide) ?_
  have k₃ : ∀ b o, h₂.get? b = some o → (h₂.push (kxs_mw "ValueError.__init__" x)).get? b = some o := fun b o e => Heap.get?_push_of_some _ e
  have hmw : (h₂.push (kxs_mw "ValueError.__init__" x)).get? h₂.objs.size = some (kxs_mw "ValueError.__init__" x) := Heap.get?_push_at rfl rfl
  refine kxs_callWith (i := "ValueError.__init__") (x := x) rfl (evalArgs_plain ?_)
  refine spliced_cons (wpAny_Name (wpAny_loadName_local rfl T.fok.lf (hns₂.keeps k₃) mv ?_) T.fok.dbg)
  refine spliced_nil ⟨hmw, ?_⟩
  have FB := F.excBase_ValueError
  refine wpAny_call (codeAny_of_tree ?_)
  show wpAny _ _ (callAny (.ref h₂.objs.size) ⟨[v], []⟩) _ _ _
  simp only [callAny]
  refine wpAny_bind (wpAny_load hmw ?_)
  simp only [kxs_mw, show (Value.type "method-wrapper" == Value.type "method" || Value.type "method-wrapper" == Value.type "builtin_function_or_method" || Value.type "method-wrapper" == Value.type "method-wrapper") = true by decide, if_true]
  refine KFB.if_so (by decide) ?_
  refine wpAny_bind (check_bound_init FB.toExcCallFacts (k₃ _ _ (X₂ _ _ hC)) (k₃ _ _ hx₂) rfl ?_)
  refine wpAny_bind (wpAny_pure (wpAny_pure ?_))
  refine ⟨plainId_quiet FB.init.plain _, codeAny_builtin FB.initEntry ?_⟩
  refine exc_init_tree (cls := .ref C) (t0 := t0) (dv := none) (c2 := .none) (c3 := .none) (b4 := .bool false) (k₃ _ _ hx₂) (by rw [sizeLine_eq]; exact (by decide : 1 ≤ 16777216)) fun h₄ k₄ hx₄ _ => ?_
  have hxL : hp.objs.size ≠ x := Nat.ne_of_gt (Heap.lt_size hx)
  have X₄ : K.In h₄ := fun a o e => k₄ a o (fun z => by rw [z, hnx] at e; cases e) (k₃ a o (X₂ a o e))
  have hns₄ : Heap.Ns h₄ hp.objs.size (fun y => ([("self", Value.ref x), (f, v)] : List (Str × Value)).reverse.lookup y) := by
    obtain ⟨oL, es, ep, hL, r⟩ := hns₂.keeps k₃
    exact ⟨oL, es, ep, k₄ _ _ hxL hL, r⟩
  show _root_.PySem.wpAt _ _ _ (execs _ _) _ _ _
  refine ks_wpAt_execs_cons (ks_wpAt_Assign_Attr (wpAt_of_wpAny ?_))
  refine wpAny_Name (wpAny_loadName_local rfl T.fok.lf hns₄ mv ?_) T.fok.dbg
  refine wpAny_Name (wpAny_loadName_local rfl rfl hns₄ mself ?_) (by decide)
  refine set_plain X₄ (od := none) ⟨hx₄, rfl, rfl, trivial⟩ T.sa ?_
  refine exc_osa X₄ hx₄ hcl (show refsVE (.ref C :: bm) = true from hbm) rfl T.noF (fun h₅ tk₅ dx k₅ dn dne hx₅ hn₅ => ?_)
  show _root_.PySem.wpAt _ _ _ (execs _ _) _ _ _
  have hle : hp.objs.size ≤ h₄.objs.size := Nat.le_of_lt hns₄.lt
  exact wpAt_of_wpAny (wpAny_execs_nil (hq h₅ tk₅ dx _ ⟨fun b o hb e => k₅ b o hb (k₄ b o hb (k₃ b o (k₂ b o (hk₁ b o e)))), hx₅, Nat.le_trans hle dn, dne, hn₅⟩))
end
end MCX
end PySem
namespace L2
open PySem PySem.Spec PyProof.Rows
/-! ### try .. several clauses, each «except X as n» -/
abbrev ClA : Type := Value × Nat × (Addr → Value → Option Addr → TS)
abbrev Ends.un (D : Ends) (i : Nat) : Ends := { nx := fun σ' H' => D.nx (σ'.set i none) H', rt := D.rt, bk := fun σ' H' => D.bk (σ'.set i none) H', ct := fun σ' H' => D.ct (σ'.set i none) H' }
def wManyA (K : PySem.W.Frag) (Wo : WX) (D : Ends) : List ClA → WX
  | [] => Wo
  | (c, i, ts) :: r => fun cls d σ H => ∃ b, PySem.W.exmOne K cls c = some b ∧ (b = true → ∀ a, H a = none → ts a cls d (D.un i) (σ.set i (some (.ref a))) H) ∧ (b = false → wManyA K Wo D r cls d σ H)
inductive HdsA (X : Cx) : List ExceptHandler → List ClA → Prop
  | nil : HdsA X [] []
  | cons {x n : Str} {i : Nat} {c : Value} {ts : Addr → Value → Option Addr → TS} {b₀ : Stmt} {su : List Stmt} {np po : Pos} {hs : List ExceptHandler} {l : List ClA} (hc : Names X x c) (hi : X.N[i]? = some n) (hn : X.env.kindOf n = some .local)
      (hsu : ∀ (a : Addr) (oe : Obj) (cls : Value) (d : Option Addr) (pn : List (Addr × Obj)), Zc cls d oe → (∃ vs, oe.data = .fields vs) → PSs (X.suite a ((a, oe) :: pn)) (b₀ :: su) (ts a cls d)) (r : HdsA X hs l) :
      HdsA X (.ExceptHandler (some (.Name x np)) (some n) (b₀ :: su) po :: hs) ((c, i, ts) :: l)
section
variable {X : Cx} {body : List Stmt} {k₀ : ExceptHandler} {ks : List ExceptHandler} {l : List ClA} {pos : Pos} {tb : WX → TS} {Wo : WX}
theorem ps_try_manyA (e1 : X.stack = X.env :: X.outer) (e2 : X.env.frame = some X.env.locals) (nd : X.N.Nodup) (tk : Takes X Wo)
    (hb : ∀ (W : WX) (pn : List (Addr × Obj)) (xe : Value → Shared → Prop), Takes (X.tr pn xe) W → PassesOwn (model X.prog X.w) X.A X.env xe → PSs (X.tr pn xe) body (tb W))
    (hh : HdsA X (k₀ :: ks) l) : PS X (.Try body (k₀ :: ks) [] [] pos) (fun D σ H => tb (wManyA X.K Wo D l) D σ H) := by
  refine ⟨fun pins s σ H D I hw => ?_⟩
  have ok := I.ok
  have efr : X.A.frames = some (X.env :: X.outer) := by rw [ok.frames, e1]
  refine wpAny_Try_except (wpAny_mono ((hb (wManyA X.K Wo D l) (X.pn ++ pins) _ (fun u s1 xx => ?cat) PassesOwn.looking).run [] s σ H D (I.toTry _) hw) (fun fl s1 sp => ?thru) (fun e s1 he => he))
  case thru =>
    cases fl with
    | next => exact let ⟨σ', H', J', q⟩ := sp; wpAny_execs_nil ⟨σ', H', J'.ofTry ok, q⟩
    | brk => exact let ⟨σ', H', J', q⟩ := sp; ⟨σ', H', J'.ofTry ok, q⟩
    | cont => exact let ⟨σ', H', J', q⟩ := sp; ⟨σ', H', J'.ofTry ok, q⟩
    | ret u => exact let ⟨v, σ', H', J', r, q⟩ := sp; ⟨v, σ', H', J'.ofTry ok, r, q⟩
  case cat =>
    obtain ⟨a, B, sI, pz, σ', H', cls, d, rfl, J0, nb, up, sky, na, os, ag, ww⟩ := xx
    have J : Inv X pins σ' H' sI := J0.ofTry ok
    rw [e1] at sky
    refine Sky.land Zc.steady efr e2 sky fun h3 fl3 up3 => ?_
    have J3 : Inv X pins σ' H' ⟨h3, s1.gens, s1.drawn, s1.toks, s1.os⟩ := J.landed nb fl3.1 (up.trans up3) os ag
    obtain ⟨o3, vs3, g3, z3, d3⟩ := fl3.there
    have out : a ∉ frs (X.env :: X.outer) := fun hm => by
      obtain ⟨_, o', e', nf⟩ := fl3.2.2.1.mem hm
      rw [g3] at e'
      cases e'
      exact nf _ d3
    have nL : a ≠ X.env.locals := fun z => out (List.mem_filterMap.mpr ⟨X.env, List.mem_cons_self, by rw [e2, z]⟩)
    have nF : a ∉ X.fs := fun hm => by
      obtain ⟨e, he, q⟩ := List.mem_filterMap.mp hm
      exact out (List.mem_filterMap.mpr ⟨e, List.mem_cons_of_mem _ he, q⟩)
    have S3 := J3.suite g3 d3 na nL nF
    have go : ∀ {hs : List ExceptHandler} {m : List ClA}, HdsA X hs m → wManyA X.K Wo D m cls d σ' H' → wpAny (model X.prog X.w) X.A (handleBy (.ref a) X.env hs) (SP X pins D) X.xe { s1 with heap := h3 } := by
      intro hs m hk
      induction hk with
      | nil =>
        intro wq
        refine wpAny_handleBy_nil ?_
        obtain ⟨_, _, _, oe, vs, T, oT, _, ge, _, gd, gt, _⟩ := id fl3
        have last : wpAny (model X.prog X.w) X.A (setFlight (.ref a) X.env.frame) (fun _ s4 => wpAny (model X.prog X.w) X.A (throw (.ref a) : Sem Flow) (SP X pins D) X.xe s4) X.xe ⟨h3, s1.gens, s1.drawn, s1.toks, s1.os⟩ := by
          rw [e2]
          exact HandSPX.setFlight_upZ fl3 fun h4 hh4 up4 => wpAny_throw (tk _ _ ⟨a, B, sI, pins, σ', H', cls, d, rfl, J, nb, (up.trans up3).trans up4, .inr (.inr (by rw [e1]; exact hh4)), na, os, ag, wq⟩)
        unfold PySem.passOn
        refine wpAny_bind (wpAny_field ge gd gt ?_)
        rw [if_neg (by simp : ¬ ((Value.ref T == Value.none) = true))]
        first | exact wpAny_bind (wpAny_pure (wpAny_bind last)) | exact wpAny_bind last
      | @cons x n i c ts b₀ su np po hs2 l2 hc hi hn hsu r ih =>
        rintro ⟨b, eb, yes, no⟩
        refine wpAny_handleBy_cons (codeAny_handlers_test ?_) (fun q => nomatch q)
        have L1 : PySem.W.Looks (model X.prog X.w) h3 (typeOf (.ref a)) cls := fun A Q E s k q => wpAny_typeOf_ref (k _ _ g3) (by rw [z3.1]; exact q)
        have L2' := PySem.W.exm_one (M := model X.prog X.w) J3.kIn L1 eb
        have look : ∀ {Q E : Value → Shared → Prop}, Q c ⟨h3, s1.gens, s1.drawn, s1.toks, s1.os⟩ → wpAny (model X.prog X.w) (X.A.mark (some (.ref a))) (eval (.Name x np) X.env) Q E ⟨h3, s1.gens, s1.drawn, s1.toks, s1.os⟩ := fun {Q E} q => by
          obtain ⟨hg, hdb, hm | ⟨hm, hv, hnn⟩⟩ := hc
          · exact ld_glob (X := X.suite a ((a, o3) :: (X.pn ++ pins))) S3 hg hm q hdb
          · exact ld_blt (X := X.suite a ((a, o3) :: (X.pn ++ pins))) S3 hg hm hv q hnn hdb
        refine look (L2'.here ?_)
        cases b with
        | false => exact ih (no rfl)
        | true =>
          refine codeAny_handlers_suite_as (HandSPX.lands_againZ fl3 fun h4 fl4 up4 => ?_)
          have J4 : Inv X pins σ' H' ⟨h4, s1.gens, s1.drawn, s1.toks, s1.os⟩ := J.landed nb fl4.1 ((up.trans up3).trans up4) os ag
          obtain ⟨o4, vs4, g4, z4, d4⟩ := fl4.there
          have S4 := J4.suite g4 d4 na nL nF
          refine store_ok (X := X.suite a ((a, o4) :: (X.pn ++ pins))) (v := .ref a) S4 nd hi (.inl hn) rfl (fun s5 S5 => ?_) (.inr hn)
          refine wpAny_mono ((hsu a o4 cls d (X.pn ++ pins) z4 ⟨_, d4⟩).run [] s5 _ H' _ S5 (yes rfl a na)) (fun fl s6 sp => ?_) (fun _ _ z => z.elim)
          have fin : ∀ {σ6 : St} {H6 : Hp} {Q : Shared → Prop}, Inv (X.suite a ((a, o4) :: (X.pn ++ pins))) [] σ6 H6 s6 → (∀ s7, Inv X pins (σ6.set i none) H6 s7 → Q s7) →
              wpAny (model X.prog X.w) X.A (do bindName X.env n .none; unbindBehindTheSuite X.env n po) (fun _ s7 => Q s7) X.xe s6 := fun S6 hq => gone_ok (S6.unsuite ok) nd hi hn hq
          cases fl with
          | next => exact let ⟨_, _, S6, q6⟩ := sp; fin S6 fun s7 J7 => ⟨_, _, J7, q6⟩
          | brk => exact let ⟨_, _, S6, q6⟩ := sp; fin S6 fun s7 J7 => ⟨_, _, J7, q6⟩
          | cont => exact let ⟨_, _, S6, q6⟩ := sp; fin S6 fun s7 J7 => ⟨_, _, J7, q6⟩
          | ret u => exact let ⟨_, _, _, S6, r6, q6⟩ := sp; fin S6 fun s7 J7 => ⟨_, _, _, J7, r6, q6⟩
    exact go hh ww
end
end L2
namespace PySem
namespace MCX
open PySem.W PySem.Calls PyProof.Rows PySem.HandSPX
/-- a made error: its own dict holds f -/
structure OwnMade (f : Str) (h h' : Heap) (e C d : Addr) (v : Value) : Prop where
  keep : ∀ b o, h.get? b = some o → h'.get? b = some o
  new : h.objs.size ≤ e
  obj : ∃ oe vs, h'.get? e = some oe ∧ oe.cls = .ref C ∧ oe.dict = some d ∧ oe.data = .fields vs ∧ vs[1]? = some .none
  dbig : h.objs.size ≤ d
  dne : d ≠ e
  ns : h'.Ns1 d (fun y => if y = f then some v else none)
section
variable {prog : Program} {w : World} {A : Around} {R : Result → Shared → Prop} {s : Shared} {K : Frag} {mg : Str → Option Value} {nm f : Str} {C fI : Addr}
theorem x_made (T : XTxt prog K mg nm f C fI) {v : Value} (X : K.In s.heap) (hlim : s.heap.NoLimit) (hroom : A.depth + 1 < recursionLimit)
    (hG : s.heap.Ns mainGlobals mg) (hB : ∃ mb, s.heap.Ns builtinsNs mb ∧ ∀ x : Str, x ≠ "__name__" → mb x = bootBuiltins x)
    (hq : ∀ h' tk e d, OwnMade f s.heap h' e C d v → R (.ok (.ret (.ref e))) { s with heap := h', toks := tk }) :
    codeAny (model prog w) A (.call (.ref C) ⟨[v], []⟩) R s := by
  obtain ⟨cnm, q, N, bs, bm, sn, sub, ab, col, dd, k0, k1, k2, k3, k5, hC, hbm⟩ := T.cls
  obtain ⟨hp, g, dr, tk, os⟩ := s
  have k : ∀ b o, hp.get? b = some o → ((hp.push (kdv_tup [v])).push (excO C hp.objs.size)).get? b = some o := fun b o e => Heap.get?_push_of_some _ (Heap.get?_push_of_some _ e)
  have hget : ((hp.push (kdv_tup [v])).push (excO C hp.objs.size)).get? (hp.objs.size + 1) = some (excO C hp.objs.size) := by heap_get
  have hnx : K.lookup (hp.objs.size + 1) = none := by
    cases e : K.lookup (hp.objs.size + 1) with
    | none => rfl
    | some o =>
      have z : hp.get? (hp.objs.size + 1) = some o := X _ _ e
      exact absurd (Nat.lt_of_succ_lt (Heap.lt_size z)) (Nat.lt_irrefl _)
  refine call_own F.excBase_ValueError (fun X => refsVE_contains X bm hbm) (X _ _ hC) (looks_findIn X T.iC) (fun self => bind_fn X self T.tC) (by rw [sizeLine_eq]; exact (by decide : 1 ≤ 16777216)) ?_
  refine sup_init (s := ⟨(hp.push (kdv_tup [v])).push (excO C hp.objs.size), g, dr, tk, os⟩) T (X.keeps k) (hlim.keeps k) hget hnx hroom (hG.keeps k) (let ⟨mb, b1, b2⟩ := hB; ⟨mb, b1.keeps k, b2⟩) fun h' tk' dx t1 ⟨k', hx, dn, dne, hns⟩ => ?_
  have old : ∀ b o, hp.get? b = some o → h'.get? b = some o := fun b o e => k' b o (Nat.ne_of_lt (Nat.lt_succ_of_lt (Heap.lt_size e))) (k b o e)
  have z : hp.objs.size + 1 + 1 ≤ dx := by
    first
      | (simpa only [Heap.size_push] using dn)
      | exact dn
      | (have q := dn; rw [Heap.size_push, Heap.size_push] at q; exact q)
  exact ⟨rfl, hq h' tk' (hp.objs.size + 1) dx ⟨old, Nat.le_succ _, ⟨_, _, hx, rfl, rfl, rfl, rfl⟩, Nat.le_trans (Nat.le_trans (Nat.le_succ _) (Nat.le_succ _)) z, dne, hns⟩⟩
end
end MCX
end PySem
namespace L2
open PySem PySem.Spec PyProof.Rows
theorem relO_one {g : Str} {v : V} {v' : Value} (r : RelV v v') (f : Str) : RelO (List.lookup f [(g, v)]) (if f = g then some v' else none) := by
  by_cases hw : f = g
  · subst hw
    rw [if_pos rfl]
    have q : List.lookup f [(f, v)] = some v := by simp [List.lookup]
    rw [q]
    exact r
  · rw [if_neg hw]
    have qw : (f == g) = false := by simpa using hw
    have q2 : List.lookup f [(g, v)] = none := by simp [List.lookup, qw]
    rw [q2]
    trivial
section
variable {X : Cx} {nm f : Str} {C fI : Addr}
/-- nm(e) -/
def tMkX (f : Str) (C : Addr) (ta : TA) : St → Hp → XK → Prop := fun σ H Q => ta σ H fun vs H1 => ∃ v, vs = [v] ∧ ∀ d, H1 d = none → Q (.ref C) (some d) (upd H1 d (.xd [(f, v)]))
theorem pmk_x {a : Expr} {ta : TA} {p pos : Pos} {k : Nat} (T : PySem.MCX.XTxt X.prog X.K X.mg nm f C fI) (hr : Room k X.A) (ha : PA X [a] ta) (hg : Gl X nm := by rfl) (hd : (nm == ("__debug__" : Str)) = false := by decide)
    (he : starEach (a :: []) X.env = (false, eval a X.env) :: starEach [] X.env := by rfl) (hpl : (backTo pos (starEach [] X.env)).any (·.1) = false := by rfl) :
    PMk X (.Call (.Name nm p) [a] [] pos) (tMkX f C ta) := by
  intro pins s σ H Q I h
  refine wpAny_Call_Name_kw (ld_glob I hg T.gC ?_ hd)
  refine PySem.W.callWith_K (h₀ := X.base) I.ok.mod.kin T.kC (thn (ha.run pos pins s σ H _ I h) fun us s1 hh => ?_) he hpl
  obtain ⟨vs, H1, I1, r1, v, ev, q1⟩ := hh
  subst ev
  refine ⟨I1.kIn, ?_⟩
  cases r1 with
  | cons rv rn =>
    rename_i v' us'
    cases rn
    show wpAny _ _ (call (.ref C) [v']) _ _ _
    have hlim := I1.nolimit
    have hG : s1.heap.Ns mainGlobals X.mg := I1.ok.mod.glob.keeps I1.bk
    have hB : ∃ mb, s1.heap.Ns builtinsNs mb ∧ ∀ x : Str, x ≠ "__name__" → mb x = bootBuiltins x := let ⟨mb, b1, b2⟩ := I1.ok.mod.blt; ⟨mb, b1.keeps I1.bk, b2⟩
    obtain ⟨hp, g, dr, tk, os⟩ := s1
    refine wpAny_call (PySem.MCX.x_made T I1.kIn hlim (by have := hr.dp; omega) hG hB fun h' tk' e d M => ?_)
    show MkP X pins σ Q (.ref e) ⟨h', g, dr, tk', os⟩
    obtain ⟨oe, fv, hoe, hc, hd, hdat, h1⟩ := M.obj
    have hns := M.ns
    obtain ⟨G', g1, g2⟩ := restrict h' fun b => decide (b ≠ e)
    have gk : ∀ b, b ≠ e → G'.get? b = h'.get? b := fun b hb => g1 b (decide_eq_true hb)
    have ge : G'.get? e = none := g2 e (by simp)
    have old : ∀ b o, hp.get? b = some o → G'.get? b = some o := fun b o q => (gk b (Nat.ne_of_lt (Nat.lt_of_lt_of_le (Heap.lt_size q) M.new))).trans (M.keep b o q)
    have ob : ObjOk X.prog X.w (upd H1 d (.xd [(f, v)])) G' d (.xd [(f, v)]) :=
      ⟨_, hns.at (fun o q => (gk d M.dne).trans q), fun g => relO_one rv g⟩
    have J : Inv X pins σ (upd H1 d (.xd [(f, v)])) ⟨G', g, dr, tk', os⟩ := I1.laid (t' := tk') old M.dbig ob
    refine ⟨e, oe, fv, ⟨G', g, dr, tk', os⟩, _, .ref C, some d, rfl, J, fun b o q => ?_, ge, hoe, ⟨hc, hd⟩, hdat, h1, ?_, rfl, I1.bare, raises_own T.exC T.tyC, q1 d (I1.hok.fresh M.dbig)⟩
    · by_cases hb : b = e
      · have q' : G'.get? b = some o := q
        rw [hb, ge] at q'; cases q'
      · exact (gk b hb).symm.trans q
    · rw [upd_ne (Ne.symm M.dne)]
      exact I1.hok.fresh M.new
/-- raise nm(e) -/
def tRaiseX (f : Str) (C : Addr) (W : WX) (ta : TA) : TS := fun _ σ H => tMkX f C ta σ H fun cls d H' => W cls d σ H'
theorem ps_raiseX {a : Expr} {ta : TA} {W : WX} {p pos pos2 : Pos} {k : Nat} (hc : X.calm = true) (T : PySem.MCX.XTxt X.prog X.K X.mg nm f C fI) (hr : Room k X.A) (tk : Takes X W) (ha : PA X [a] ta) (hg : Gl X nm := by rfl) (hd : (nm == ("__debug__" : Str)) = false := by decide)
    (he : starEach (a :: []) X.env = (false, eval a X.env) :: starEach [] X.env := by rfl) (hpl : (backTo pos (starEach [] X.env)).any (·.1) = false := by rfl) :
    PS X (.Raise (some (.Call (.Name nm p) [a] [] pos)) none pos2) (tRaiseX f C W ta) := ps_raise hc tk (pmk_x T hr ha hg hd he hpl)
theorem _root_.PySem.MCX.XTxt.xf {prog : Program} {K : PySem.W.Frag} {mg : Str → Option Value} (T : PySem.MCX.XTxt prog K mg nm f C fI) : XfC K C := ⟨T.ga, T.gg, T.exC, T.hdC⟩
end
end L2
namespace MCH
open PySem PySem.Spec PyProof.Rows L2 PySem.W PySem.MCX PySem.HandSPX He
/-! ### facts of own errors (super().__init__) by names, beside the layer's own facts -/
def asM (g : Addr → Option Obj) : Nat → List Addr
  | 0 => [mainGlobals, cStatics]
  | n + 1 => growD g (asM g n)
/-- an own error: its class's name, its field, its __init__ -/
structure XD where
  nm : Str
  f : Str
  st : Stmt
abbrev FnV : Type := Option (Str × Arguments × FuncBody × Scope × Addr × Addr)
def fnV (K : Frag) (x : XD) : FnV := match K.lookup (ma K (ga K x.nm) "__init__") with
  | some ⟨_, _, .func fd, _⟩ => some (fd.name, fd.params, fd.body, fd.scope, fd.globals, fd.builtins)
  | _ => none
def XD.val (x : XD) : FnV := some ("__init__", defArgs x.st, .stmts (defBody x.st), defScope x.st, mainGlobals, builtinsNs)
def clB (K : Frag) (C : Addr) : Bool := match K.lookup C with
  | some ⟨.type c, _, .cls cd, sl⟩ => decide (c = "type") && (match cd.mro, sl.toList with
    | .ref C' :: bm, [_, _, _, _, some (.builtin n), _] => decide (C' = C) && (decide (n = "ValueError.__new__") && (!cd.hasDel && (cd.hasDict && refsVE bm)))
    | _, _ => false)
  | _ => false
theorem clB_ok {K : Frag} {C : Addr} (h : clB K C = true) : ∃ nm q N bs bm sn sub ab col dd k0 k1 k2 k3 k5, K.lookup C = some (excClassObj nm q C N bs bm true sn sub ab col dd k0 k1 k2 k3 k5 "ValueError.__new__") ∧ refsVE bm = true := by
  unfold clB at h
  cases q : K.lookup C with
  | none => rw [q] at h; cases h
  | some o =>
    obtain ⟨oc, od, dt, sl⟩ := o
    rw [q] at h
    cases oc with
    | type c =>
      cases dt with
      | cls cd =>
        obtain ⟨h1, h2⟩ := ba h
        have e1 : c = "type" := of_decide_eq_true h1
        subst e1
        obtain ⟨nm, bs, mro, ns, qn, hd, sn, sb, ab, col, del⟩ := cd
        obtain ⟨sl⟩ := sl
        dsimp only at h2
        split at h2
        · rename_i C' bm k0 k1 k2 k3 n k5
          obtain ⟨a1, h3⟩ := ba h2
          obtain ⟨a2, h4⟩ := ba h3
          obtain ⟨a3, h5⟩ := ba h4
          obtain ⟨a4, a5⟩ := ba h5
          have z1 := of_decide_eq_true a1
          have z2 := of_decide_eq_true a2
          subst z1 z2
          simp only [Bool.not_eq_true'] at a3
          subst a3 a4
          exact ⟨nm, qn, ns, bs, bm, sn, sb, ab, col, od, k0, k1, k2, k3, k5, rfl, a5⟩
        · cases h2
      | _ => cases h
    | _ => cases dt <;> cases h
def fnB (prog : Program) (K : Frag) (C fI : Addr) : Bool := match K.lookup fI with
  | some ⟨_, _, .func fd, _⟩ => decide (fd.defaults = .none) && (decide (fd.kwdefaults = .none) && (match fd.code, fd.closure with
    | .ref cda, [(x, cc)] => decide (x = "__class__") && (codeIn K (.ref cda) fd.qualname && ((match K.lookup cda with
      | some ⟨_, _, .fields vs, _⟩ => (match (vs[2]? : Option Value) with
        | some (.str file _) => ((prog.main.file : Str) == file)
        | _ => false)
      | _ => false) && (match K.lookup cc with
      | some ⟨_, _, .cell (some (.ref D)), _⟩ => decide (D = C)
      | _ => false)))
    | _, _ => false))
  | _ => false
def xB (prog : Program) (K : Frag) (x : XD) : Bool :=
  eqO (nsIn K mainGlobals x.nm) (some (some (.ref (ga K x.nm)))) && (clB K (ga K x.nm) && (eqO (findIn K (.ref (ga K x.nm)) "__setattr__") (some (some (.builtin "object.__setattr__"))) &&
  (eqO (findIn K (.ref (ga K x.nm)) "__getattribute__") (some (some (.builtin "BaseException.__getattribute__"))) && (eqO (findIn K (.ref (ga K x.nm)) "__getattr__") (some none) && (eqO (findIn K (.ref (ga K x.nm)) x.f) (some none) &&
  (eqO (findIn K (.ref (ga K x.nm)) "__init__") (some (some (.ref (ma K (ga K x.nm) "__init__")))) && (decide (typeIn K (.ref (ma K (ga K x.nm) "__init__")) = some (.type "function")) && (keepIn K (.ref (ga K x.nm)) &&
  (decide (subIn K (.ref (ga K x.nm)) (.type "BaseException") = some true) && (decide (subIn K (.ref (ga K x.nm)) (.type "ValueError") = some true) && (decide (typeIn K (.ref (ga K x.nm)) = some (.type "type")) && (hasDictIn K (ga K x.nm) &&
  (decide (exmOne K (.ref (ga K x.nm)) (.ref (ga K x.nm)) = some true) && (decide (mroIn K (ga K x.nm) (.ref (ga K x.nm)) = some true) && (eqO (ks_superIn K (ga K x.nm) (ga K x.nm) "__init__") (some (some (.builtin "ValueError.__init__"))) &&
  (eqO (nsIn K cStatics "thirdparty.any") (some none) && (eqO (nsIn K mainGlobals "super") (some none) && fnB prog K (ga K x.nm) (ma K (ga K x.nm) "__init__"))))))))))))))))))
theorem xB_ok {prog : Program} {K : Frag} {h : Heap} {mg : Str → Option Value} (X : K.In h) (G : h.Ns mainGlobals mg) {x : XD} (c : xB prog K x = true) (e : fnV K x = x.val) (fok : FOk x.f) (htop : (prog.main.scope.names.lookup ("super" : Str)).isSome = false)
    {p1 p2 q1 q2 q3 q4 q5 q6 q7 q8 q9 q10 : Pos} (eA : defArgs x.st = iA x.f p1 p2) (eB : defBody x.st = iB x.f q1 q2 q3 q4 q5 q6 q7 q8 q9 q10) (eS : defScope x.st = iS x.f) (hpos : (q3.endLine == q5.line) = true) :
    XTxt prog K mg x.nm x.f (ga K x.nm) (ma K (ga K x.nm) "__init__") := by
  unfold xB at c
  simp only [Bool.and_eq_true] at c
  obtain ⟨c1, c2, c3, c4, c5, c6, c7, c8, c9, c10, c11, c12, c13, c14, c15, c16, c17, c18, c19⟩ := c
  refine { gC := mg_of X G (eqO_ok c1), fok := fok, cls := clB_ok c2, sa := eqO_ok c3, ga := eqO_ok c4, gg := eqO_ok c5, noF := eqO_ok c6, iC := eqO_ok c7, tC := of_decide_eq_true c8, kC := c9, exC := of_decide_eq_true c10, veC := of_decide_eq_true c11, tyC := of_decide_eq_true c12, hdC := c13, te := of_decide_eq_true c14, mC := of_decide_eq_true c15, su := eqO_ok c16, tp := eqO_ok c17, noS := mg_none_of X G (eqO_ok c18), top := htop, fn := ?_ }
  unfold fnB at c19
  unfold fnV XD.val at e
  cases q : K.lookup (ma K (ga K x.nm) "__init__") with
  | none => rw [q] at c19; cases c19
  | some o =>
    obtain ⟨oc, od, dt, osl⟩ := o
    rw [q] at c19 e
    cases dt with
    | func fd =>
      obtain ⟨n1, n2, n3, n4, n5, n6, n7, n8, n9, n10, n11, n12, n13, n14, n15⟩ := fd
      simp only [Option.some.injEq, Prod.mk.injEq] at e
      obtain ⟨h1, h3, h4, h5, h6, h8⟩ := e
      rw [eA] at h3
      rw [eB] at h4
      rw [eS] at h5
      subst h1 h3 h4 h5 h6 h8
      dsimp only at c19
      simp only [Bool.and_eq_true, decide_eq_true_eq] at c19
      obtain ⟨d1, d2, d3⟩ := c19
      subst d1 d2
      split at d3
      · rename_i cda y cc
        simp only [Bool.and_eq_true, decide_eq_true_eq] at d3
        obtain ⟨m1, m2, m3, m4⟩ := d3
        subst m1
        refine ⟨n2, oc, od, n10, n11, n12, cda, n14, cc, osl, p1, p2, q1, q2, q3, q4, q5, q6, q7, q8, q9, q10, rfl, m2, ?_, ?_, hpos⟩
        · split at m3
          · rename_i _ _ vs _ e1
            split at m3
            · rename_i file tf e2
              exact ⟨_, _, vs, _, file, tf, e1, e2, m3⟩
            · cases m3
          · cases m3
        · split at m4
          · rename_i _ _ D _ e1
            have z := of_decide_eq_true m4
            subst z
            exact ⟨_, _, _, e1⟩
          · cases m4
      · cases d3
    | _ => cases c19
/-! ### the hook -/
abbrev AlM : Type := AlD × Bool × List FnV
def obsM (n : Nat) (prog : Program) (fa : List Fa) (fn : List DefD) (xs : List XD) (ex : Frag → Bool) (g : Addr → Option Obj) : AlM :=
  (obsD fa fn (frG g (asM g n)), (xs.all fun x => xB prog (frG g (asM g n)) x) && ex (frG g (asM g n)), xs.map fun x => fnV (frG g (asM g n)) x)
def valM (fn : List DefD) (xs : List XD) : AlM := (valD fn, true, xs.map XD.val)
structure SaysM (prog : Program) (fa : List Fa) (fn : List DefD) (xs : List XD) (ex : Frag → Bool) (K : Frag) : Prop where
  d : SaysD fa fn K
  x : ∀ x ∈ xs, xB prog K x = true ∧ fnV K x = x.val
  e : ex K = true
theorem map_eq_at {α β : Type} {f g : α → β} : ∀ {l : List α}, l.map f = l.map g → ∀ x ∈ l, f x = g x
  | [], _, x, hx => by cases hx
  | a :: l, h, x, hx => by
    simp only [List.map_cons, List.cons.injEq] at h
    rcases List.mem_cons.mp hx with rfl | hx
    · exact h.1
    · exact map_eq_at h.2 x hx
theorem saysM_of {n : Nat} {prog : Program} {fa : List Fa} {fn : List DefD} {xs : List XD} {ex : Frag → Bool} {g : Addr → Option Obj} (e : obsM n prog fa fn xs ex g = valM fn xs) : SaysM prog fa fn xs ex (frG g (asM g n)) := by
  have e1 := congrArg (fun z : AlM => z.1) e
  have e2 := congrArg (fun z : AlM => z.2.1) e
  have e3 := congrArg (fun z : AlM => z.2.2) e
  obtain ⟨b1, b2⟩ := ba e2
  exact ⟨e1, fun x hx => ⟨List.all_eq_true.mp b1 x hx, map_eq_at e3 x hx⟩, b2⟩
def hookM (n : Nat) (prog : Program) (fa : List Fa) (fn : List DefD) (xs : List XD) (ex : Frag → Bool) : PySem.W.Hook where
  α := AlM
  obs := fun s => obsM n prog fa fn xs ex s.heap.get?
  val := fun _ => valM fn xs
  says := fun w h => ∃ K : PySem.W.Frag, K.In h ∧ SaysM prog fa fn xs ex K
  of := fun _ _ e => ⟨_, frG_in, saysM_of e⟩
  keeps := fun _ _ _ ⟨K, hK, c⟩ k => ⟨K, PySem.W.Frag.In.keeps hK k, c⟩
theorem obsM_eq {n : Nat} {prog : Program} {fa : List Fa} {fn : List DefD} {xs : List XD} {ex : Frag → Bool} {g : Addr → Option Obj} {s : Shared} (h : ∀ a, g a = s.heap.get? a) : obsM n prog fa fn xs ex g = (hookM n prog fa fn xs ex).obs s := by
  have e : g = s.heap.get? := funext h
  rw [e] <;> rfl
end MCH
namespace L2
open PySem PySem.Spec PyProof.Rows
/-! ### data behind a value: None, bools, ints, texts, lists, tuples, the empty dict -/
mutual
inductive Dq (K : PySem.W.Frag) (H : Hp) : V → PyData → Prop
  | non : Dq K H .non .none
  | bl (b : Bool) : Dq K H (.bl b) (.bool b)
  | int (i : Int) : Dq K H (.int i) (.int i)
  | str (x : Str) : x.length ≤ sizeLine → Dq K H (.str x) (.str x)
  | lst {a : Addr} {xs : List V} {ds : List PyData} : SqL K H a xs → DqA K H xs ds → Dq K H (.ref a) (.list ds)
  | tup {a : Addr} {xs : List V} {ds : List PyData} : SqT K H a xs → DqA K H xs ds → Dq K H (.ref a) (.tuple ds)
  | dct {a : Addr} : H a = some (.dK []) → Dq K H (.ref a) (.dict [])
inductive DqA (K : PySem.W.Frag) (H : Hp) : List V → List PyData → Prop
  | nil : DqA K H [] []
  | cons {v : V} {vs : List V} {d : PyData} {ds : List PyData} : Dq K H v d → DqA K H vs ds → DqA K H (v :: vs) (d :: ds)
end
theorem SqT.upT {K : PySem.W.Frag} {H H' : Hp} {a : Addr} {xs : List V} (e : Same H H') (h : SqT K H a xs) : SqT K H' a xs := by
  rcases h with h | h
  · rcases h with h | ⟨o, h⟩
    · exact .inl (.inl (e _ _ h))
    · exact .inl (.inr ⟨o, e _ _ h⟩)
  · exact .inr h
mutual
theorem Dq.up {K : PySem.W.Frag} {H H' : Hp} (e : Same H H') : ∀ {v : V} {d : PyData}, Dq K H v d → Dq K H' v d
  | _, _, .non => .non
  | _, _, .bl b => .bl b
  | _, _, .int i => .int i
  | _, _, .str x h => .str x h
  | _, _, .lst h a => .lst (e.seq h) (DqA.up e a)
  | _, _, .tup h a => .tup (SqT.upT e h) (DqA.up e a)
  | _, _, .dct h => .dct (e _ _ h)
theorem DqA.up {K : PySem.W.Frag} {H H' : Hp} (e : Same H H') : ∀ {vs : List V} {ds : List PyData}, DqA K H vs ds → DqA K H' vs ds
  | _, _, .nil => .nil
  | _, _, .cons h r => .cons (Dq.up e h) (DqA.up e r)
end
theorem DqA.len {K : PySem.W.Frag} {H : Hp} : ∀ {vs : List V} {ds : List PyData}, DqA K H vs ds → vs.length = ds.length
  | _, _, .nil => rfl
  | _, _, .cons _ r => by simp [DqA.len r]
theorem DqA.at {K : PySem.W.Frag} {H : Hp} : ∀ {vs : List V} {ds : List PyData} {i : Nat} {v : V}, DqA K H vs ds → vs[i]? = some v → ∃ d, ds[i]? = some d ∧ Dq K H v d
  | _, _, _, _, .nil, e => by simp at e
  | _, _, 0, _, .cons h _, e => by simp at e; subst e; exact ⟨_, rfl, h⟩
  | _, _, i + 1, v, .cons _ r, e => by
    obtain ⟨d, h1, h2⟩ := DqA.at (i := i) (v := v) r (by simpa using e)
    exact ⟨d, by simpa using h1, h2⟩
/-- no dict within -/
def noDct : PyData → Bool := fun d => !d.hasDict
mutual
theorem Dq.dp {K : PySem.W.Frag} {H : Hp} : ∀ {v : V} {d : PyData}, Dq K H v d → d.hasDict = false → Dp K H v d
  | _, _, .non, _ => .non
  | _, _, .bl b, _ => .bl b
  | _, _, .int i, _ => .int i
  | _, _, .str x _, _ => .str x
  | _, _, .lst h a, n => .lst h (DqA.dp a (by simpa [PyData.hasDict] using n))
  | _, _, .tup h a, n => .tup h (DqA.dp a (by simpa [PyData.hasDict] using n))
  | _, _, .dct h, n => by simp [PyData.hasDict] at n
theorem DqA.dp {K : PySem.W.Frag} {H : Hp} : ∀ {vs : List V} {ds : List PyData}, DqA K H vs ds → PyData.hasDictAll ds = false → DpAll K H vs ds
  | _, _, .nil, _ => .nil
  | _, _, .cons h r, n => by
    simp [PyData.hasDictAll] at n
    exact .cons (Dq.dp h n.1) (DqA.dp r n.2)
end
/-! ### isinstance by data -/
def tyD : PyData → String
  | .none => "NoneType"
  | .bool _ => "bool"
  | .int _ => "int"
  | .str _ => "str"
  | .list _ => "list"
  | .tuple _ => "tuple"
  | .dict _ => "dict"
theorem Dq.ty {K : PySem.W.Frag} {H : Hp} {v : V} {d : PyData} (h : Dq K H v d) : TyX K H v (.type (tyD d)) := by
  cases h with
  | non => exact .base .non
  | bl b => exact .base (.bl b)
  | int i => exact .base (.int i)
  | str x _ => exact .base (.str x)
  | lst h _ =>
    rcases h with (h | ⟨o, h⟩) | ⟨o, _, _, h, hc, _⟩
    · exact .base (.lst h)
    · exact .base (.frz h)
    · exact .kList h hc
  | tup h _ =>
    rcases h with (h | ⟨o, h⟩) | ⟨o, _, _, h, hc, _⟩
    · exact .base (.tup h)
    · exact .fTuple h
    · exact .kTuple h hc
  | dct h => exact .base (.dK h)
def isA (d : PyData) (T : String) : Bool := (kitB (tyD d) T).getD false
def TOK (T : String) : Prop := (kitB "NoneType" T).isSome = true ∧ (kitB "bool" T).isSome = true ∧ (kitB "int" T).isSome = true ∧ (kitB "str" T).isSome = true ∧ (kitB "list" T).isSome = true ∧ (kitB "tuple" T).isSome = true ∧ (kitB "dict" T).isSome = true
theorem isA_kit {K : PySem.W.Frag} {d : PyData} {T : String} (t : TOK T) : PySem.W.kitOne K (.type (tyD d)) (.type T) = some (isA d T) := by
  refine kit_ty ?_
  obtain ⟨h1, h2, h3, h4, h5, h6, h7⟩ := t
  unfold isA
  have z : ∀ o : Option Bool, o.isSome = true → o = some (o.getD false) := fun o h => by cases o with | none => cases h | some b => rfl
  cases d <;> (apply z; assumption)
theorem tok_int : TOK "int" := by unfold TOK; decide +kernel
theorem tok_bool : TOK "bool" := by unfold TOK; decide +kernel
theorem tok_str : TOK "str" := by unfold TOK; decide +kernel
theorem tok_tuple : TOK "tuple" := by unfold TOK; decide +kernel
theorem tok_list : TOK "list" := by unfold TOK; decide +kernel
theorem tok_dict : TOK "dict" := by unfold TOK; decide +kernel
def isStrD : PyData → Bool | .str _ => true | _ => false
def isTupD : PyData → Bool | .tuple _ => true | _ => false
def isBoolD : PyData → Bool | .bool _ => true | _ => false
theorem isA_str (d : PyData) : isA d "str" = isStrD d := by
  unfold isA
  cases d <;> (unfold tyD isStrD; dsimp only; decide +kernel)
theorem isA_tuple (d : PyData) : isA d "tuple" = isTupD d := by
  unfold isA
  cases d <;> (unfold tyD isTupD; dsimp only; decide +kernel)
theorem isA_bool (d : PyData) : isA d "bool" = isBoolD d := by
  unfold isA
  cases d <;> (unfold tyD isBoolD; dsimp only; decide +kernel)
def rIsD (K : PySem.W.Frag) : List V → Hp → VK → Prop := fun xs H Q => ∃ (v : V) (d : PyData) (T : String), xs = [v, .ty T] ∧ Dq K H v d ∧ TOK T ∧ Q (.bl (isA d T)) H
theorem call_isD {X : Cx} : CallR X (.builtin "isinstance") (rIsD X.K) := by
  intro pins s σ H xs us Q I r h
  obtain ⟨v, d, T, rfl, hd, ht, q⟩ := h
  exact call_isi pins s σ H [v, .ty T] us Q I r ⟨v, .ty T, _, _, isA d T, rfl, .ty T, hd.ty, isA_kit ht, q⟩
/-! ### ifs whose test is known -/
section
variable {c A B : Prop} [Decidable c]
theorem iteY (hc : c) (h : A) : if decide c = true then A else B := by
  rw [decide_eq_true hc, if_pos rfl]
  exact h
theorem iteN (hc : ¬ c) (h : B) : if decide c = true then A else B := by
  rw [decide_eq_false hc, if_neg Bool.false_ne_true]
  exact h
theorem iteNY (hc : c) (h : B) : if (!decide c) = true then A else B := by
  rw [decide_eq_true hc]
  exact h
theorem iteNN (hc : ¬ c) (h : A) : if (!decide c) = true then A else B := by
  rw [decide_eq_false hc]
  exact h
theorem iteB {b : Bool} (h1 : b = true → A) (h2 : b = false → B) : if b = true then A else B := by
  cases b with
  | true => exact h1 rfl
  | false => exact h2 rfl
end
/-! ### a comprehension whose element is pure -/
theorem take_snoc {α : Type} : ∀ {l : List α} {i : Nat} {x : α}, l[i]? = some x → l.take i ++ [x] = l.take (i + 1)
  | [], i, x, h => by simp at h
  | a :: l, 0, x, h => by simp at h; subst h; rfl
  | a :: l, i + 1, x, h => by
    have z := take_snoc (l := l) (i := i) (x := x) (by simpa using h)
    show a :: (l.take i ++ [x]) = a :: l.take (i + 1)
    rw [z]
theorem lc_map {J : It} {n j : Nat} {G : Hp → Prop} {Yv : Nat → V → Prop} {te : TE} {vs : List Nat} {σ : St} {H1 : Hp} {D : Addr} {Qd : Hp → Prop} (w : Walk J n G (fun i H x H' => H' = H ∧ Yv i x)) (ys : List V) (hn : ys.length = n) (hz : n ≤ sizeLine)
    (hG : ∀ acc, G (upd H1 D (.lst acc))) (hw : ∀ x, wipe ((wipe σ vs).set j (some x)) vs = wipe σ vs)
    (hs : ∀ (i : Nat) (x : V) (acc : List V) (Q : VK), i < n → Yv i x → (∀ y, ys[i]? = some y → Q y (upd H1 D (.lst acc))) → te ((wipe σ vs).set j (some x)) (upd H1 D (.lst acc)) Q)
    (hd : Qd (upd H1 D (.lst ys))) :
    ∃ W : Nat → Nat → Hp → Prop, (∃ m, W 0 m (upd H1 D (.lst []))) ∧ ∀ i m H, W i m H →
      (J.stop i H ∧ Qd H) ∨ (J.go i H ∧ ∃ Nx : Hp → Prop, (∀ H', Nx H' → ∃ m', m' < m ∧ W (i + 1) m' H') ∧ ∀ x H', J.yld i H x H' → gName j x (wipe σ vs) H' fun σ2 H2 => wipe σ2 vs = wipe σ vs ∧ tYes σ2 H2 fun b H3 =>
        if b = true then te σ2 H3 fun y H4 => ∃ acc, H4 D = some (.lst acc) ∧ acc.length < sizeLine ∧ Nx (upd H4 D (.lst (acc ++ [y]))) else Nx H3) := by
  refine lc_it w (fun i H => H = upd H1 D (.lst (ys.take i))) rfl (fun i H _ e => by rw [e]; exact hG _) ?_ (fun H e => ?_)
  · rintro i x H H' hi rfl ⟨rfl, hy⟩
    refine ⟨hw x, ?_⟩
    refine hs i x _ _ hi hy fun y ey => ⟨ys.take i, upd_same, ?_, ?_⟩
    · rw [List.length_take]
      exact Nat.lt_of_lt_of_le (Nat.lt_of_le_of_lt (Nat.min_le_left _ _) hi) hz
    · rw [upd_upd, take_snoc ey]
  · subst e
    rw [← hn, List.take_length]
    exact hd
/-- repr(x), by the data behind x -/
def rRepr (K : PySem.W.Frag) : List V → Hp → VK → Prop := fun xs H Q => ∃ (v : V) (d : PyData), xs = [v] ∧ Dp K H v d ∧ d.showable = true ∧ d.hasDict = false ∧ d.depth ≤ 60 ∧ d.shown.length ≤ sizeLine ∧ Q (.str d.shown) H
end L2
namespace L2
open PySem PySem.Spec PyProof.Rows
/-! ### promises of defs where no repr is under way (A.guards = some []) -/
structure FnG (P : Program) (w : World) (K : PySem.W.Frag) (mg : Str → Option Value) (base : Heap) (CX : CXT) (k : Nat) (f : Addr) (fd : FuncData) (ps : List Str) (sp : Sp) : Prop where
  len : ∀ vs H Q E, sp vs H Q E → vs.length = ps.length
  run : ∀ (A : Around) (outer : List Env) (s : Shared) (H : Hp) (args : Args) (us : List Value) (vs : List V) (Q : VK) (E : XK), A.guards = some [] → Room k A → Env0 P w K mg base A outer s H → BindsTo s fd args (ps.zip us) → Vals vs us → sp vs H Q E →
    codeAny (model P w) A (.call (.ref f) args) (CR CX outer P w H s Q E) s
section
variable {P : Program} {w : World} {K : PySem.W.Frag} {mg : Str → Option Value} {base : Heap} {CX : CXT} {k : Nat} {f : Addr} {fd : FuncData} {ps : List Str} {sp : Sp}
theorem FnOk.g (F : FnOk P w K mg base CX k f fd ps sp) : FnG P w K mg base CX k f fd ps sp := ⟨F.len, fun A o s H a us vs Q E _ hr => F.run A o s H a us vs Q E hr⟩
theorem FnG.mono {j : Nat} (F : FnG P w K mg base CX j f fd ps sp) (h : j ≤ k) : FnG P w K mg base CX k f fd ps sp := ⟨F.len, fun A o s H a us vs Q E hg hr => F.run A o s H a us vs Q E hg (hr.mono h)⟩
theorem FunD.okG {x qual : Str} {params : Arguments} {body : List Stmt} {scope : Scope} {dvs : List V} {kws : List (Str × V)} {N : List Str} (F : FunD K x qual params body scope dvs kws f fd) (S : FnScope N ps scope) (len : ∀ vs H Q E, sp vs H Q E → vs.length = ps.length)
    (hbody : ∀ (cdv : Value) (A : Around) (outer : List Env) (s : Shared) (H : Hp) (vs : List V) (Q : VK) (E : XK), A.guards = some [] → Room k (A.deeper (envOfC qual scope s.heap.objs.size f cdv)) → sp vs H Q E →
      ∃ t, PSs (cxOf CX P w K mg base N qual scope f cdv A outer s H E) body t ∧ t { nx := fun _ H' => Q .non H', rt := Q } (start N vs) H) : FnG P w K mg base CX (k + 1) f fd ps sp := by
  obtain ⟨oc, od, dV, kV, doc, pm, an, cdv, ct, osl, rfl, lk, hcd, _, _⟩ := F.ex
  refine ⟨len, fun A outer s H args us vs Q E hgd hr e0 hbn rv hsp => ?_⟩
  have KX : K.In s.heap := e0.mod.kin.keeps fun b o e => (e0.bs b o e).1
  have kinds : ∀ y ∈ ps.zip us, scope.names.lookup y.1 = some .local ∨ (scope.names.lookup y.1 = some .cell ∧ ((cellsFrom (s.heap.objs.size + 1) scope.names []).lookup y.1).isSome = true) := by
    rintro ⟨n, v⟩ hy
    exact (S.par n (List.of_mem_zip hy).1).imp id fun q => ⟨q, PySem.W.cellsFrom_some _ _ _ (.inl q)⟩
  refine codeAny_call_function hr.depth (KX _ _ lk) rfl S.co S.gen rfl (PySem.W.codeRec_of KX hcd) (hbn _ _ _ _ (wpAny_newFunctionEnv_cells S.kind kinds fun env he s1 x => ?_))
  subst he
  refine ⟨(e0.mod.nolimit.keeps fun b o e => (e0.bs b o e).1).keeps x.toInCall.keep, codeAny_func ?_⟩
  obtain ⟨t, ht, hq⟩ := hbody cdv A outer s H vs Q E hgd (hr.deeper _) hsp
  have J0 := inv_start (CX := CX) (E := E) S hr.hd e0 (len _ _ _ _ hsp) rv x
  refine wpAny_mono (ht.run [] s1 (start N vs) H _ J0 hq) (fun fl s' hs => ?_) fun e s' hs => hs
  cases fl with
  | ret u => exact let ⟨v, σ', H', J, rz, q⟩ := hs; ⟨v, H', J.os, J.bare, J.base, J.hok, rz, q⟩
  | next => exact let ⟨σ', H', J, q⟩ := hs; ⟨.non, H', J.os, J.bare, J.base, J.hok, rfl, q⟩
  | brk => exact let ⟨_, _, _, q⟩ := hs; q.elim
  | cont => exact let ⟨_, _, _, q⟩ := hs; q.elim
end
section
variable {X : Cx} {CX : CXT} {k : Nat} {f : Addr} {fd : FuncData} {ps : List Str} {sp : Sp} {dvs : List V} {ds : List Value} {E : XK} {x : Str} {p pos : Pos} {e : Expr} {es : List Expr} {t : TA}
theorem run_fnG {pins : List (Addr × Obj)} {σ : St} {H : Hp} {s : Shared} {Q : VK} {us : List Value} {vs : List V} (F : FnG X.prog X.w X.K X.mg X.base CX k f fd ps sp) (hgd : X.A.guards = some []) (hr : Room k X.A) (hb : Binds X.K fd ps ds) (hd : Vals dvs ds) (hx : Passes CX X E)
    (I : Inv X pins σ H s) (r : Vals vs us) (h : sp (vs ++ dvs) H Q E) : wpAny (model X.prog X.w) X.A (call (.ref f) us) (EP X pins σ Q) X.xe s := by
  have rr : Vals (vs ++ dvs) (us ++ ds) := r.append hd
  have hl : (us ++ ds).length = ps.length := rr.length ▸ F.len _ _ _ _ h
  refine wpAny_call (codeAny_mono (F.run X.A X.stack s H ⟨us, []⟩ (us ++ ds) (vs ++ dvs) Q E hgd hr I.env0 (hb s us I.kIn hl) rr h) fun r s' hq => ?_)
  match r, hq with
  | .error e, hq => exact hx pins σ H s e s' I hq
  | .ok (.ret u), hq => exact I.after hq
  | .ok .next, hq => exact hq.elim
  | .ok .brk, hq => exact hq.elim
  | .ok .cont, hq => exact hq.elim
/-- f(e, ..) -/
theorem pe_callG (F : FnG X.prog X.w X.K X.mg X.base CX k f fd ps sp) (hgd : X.A.guards = some []) (hr : Room k X.A) (hg : Gl X x) (hm : X.mg x = some (.ref f)) (hk : PySem.W.keepIn X.K (.ref f) = true) (hb : Binds X.K fd ps ds) (hd : Vals dvs ds) (hx : Passes CX X E)
    (ha : PA X (e :: es) t) (hdb : (x == ("__debug__" : Str)) = false := by decide) (he : starEach (e :: es) X.env = (false, eval e X.env) :: starEach es X.env := by rfl) (hpl : (backTo pos (starEach es X.env)).any (·.1) = false := by rfl) :
    PE X (.Call (.Name x p) (e :: es) [] pos) (tCall sp dvs E t) :=
  ⟨fun pins s σ H Q I h => wpAny_Call_Name_kw (ld_glob I hg hm (PySem.W.callWith_K (h₀ := X.base) I.ok.mod.kin hk (thn (ha.run pos pins s σ H _ I h) fun us s1 ⟨vs, H1, I1, r, q⟩ => ⟨I1.kIn, run_fnG F hgd hr hb hd hx I1 r q⟩) he hpl) hdb)⟩
theorem call_repr (hgd : X.A.guards = some []) (hu : X.A.units + 64 < cLine) : CallR X (.builtin "repr") (rRepr X.K) := by
  intro pins s σ H xs us Q I r h
  obtain ⟨v, d, rfl, hd, sh, nd, dp, hz, q⟩ := h
  obtain ⟨u, rfl, ru⟩ := vals1 r
  obtain ⟨as, hr⟩ := Dp.reads I d v u hd ru
  cases hd with
  | non => cases (show u = Value.none from ru); exact PySem.P.repr_of_none ⟨.str _, H, I.tok _, ⟨_, rfl⟩, q⟩
  | bl b => cases (show u = Value.bool b from ru); exact PySem.P.repr_of_bool ⟨.str _, H, I.tok _, ⟨_, rfl⟩, q⟩
  | int i =>
    obtain ⟨t, rfl⟩ := (show ∃ t, u = Value.int i t from ru)
    exact PySem.P.repr_of_int (by simpa [PyData.showable] using sh) ⟨.str _, H, I.tok _, ⟨_, rfl⟩, q⟩
  | str x =>
    obtain ⟨t, rfl⟩ := (show ∃ t, u = Value.str x t from ru)
    exact PySem.P.repr_of_str ⟨.str _, H, I.tok _, ⟨_, rfl⟩, q⟩ hz
  | lst hs ha =>
    cases ru
    exact repr_of_reads' hr sh (fun z => by rw [nd] at z; cases z) hgd (by omega) (fun _ _ e => e) (fun h' u tk hk => ⟨.str _, H, I.kept (t' := tk) hk, ⟨_, rfl⟩, q⟩) hz
  | tup hs ha =>
    cases ru
    exact repr_of_reads' hr sh (fun z => by rw [nd] at z; cases z) hgd (by omega) (fun _ _ e => e) (fun h' u tk hk => ⟨.str _, H, I.kept (t' := tk) hk, ⟨_, rfl⟩, q⟩) hz
end
end L2
namespace L2
open PySem PySem.Spec PyProof.Rows
/-! ### the law's end over such a promise -/
section
variable {P : Program} {w : World} {K : PySem.W.Frag} {mg mb : Str → Option Value} {CX : CXT} {k : Nat} {fa a : Addr} {fd : FuncData} {x : Str} {sp : Sp} {s₁ : Shared} {vs : List Value} {ns : List Int}
/-- the goal of a law's call -/
abbrev LawGoal (P : Program) (w : World) (fa a : Addr) (s₁ : Shared) : Prop := codeAny (model P w) callerA (.call (.ref fa) ⟨[.ref a], []⟩) (fun r s' => r = .ok (.ret (.bool true)) ∧ OldK s₁.heap s'.heap ∧ s'.os = s₁.os ∧ AllBare s'.gens) s₁
theorem law_callG (KX : K.In s₁.heap) (hns : s₁.heap.Ns mainGlobals mg) (hb : s₁.heap.Ns builtinsNs mb) (hbb : ∀ x : Str, x ≠ "__name__" → mb x = bootBuiltins x) (hlim : s₁.heap.NoLimit) (hg : s₁.gens = #[])
    (ha : s₁.heap.get? a = some { cls := .type "list", data := .seq vs.toArray }) (hi : IntsAre vs ns) (hl : ns.length ≤ sizeLine) (hr : Room k callerA)
    (F : ∀ base : Heap, K.In base → base.Ns mainGlobals mg → FnG P w K mg base CX k fa fd [x] sp) (hbind : ∀ (s : Shared) (u : Value), BindsTo s fd ⟨[u], []⟩ [(x, u)])
    (hsp : ∀ H : Hp, Only H → SqL K H a (ns.map V.int) → sp [.ref a] H (fun v _ => v = .bl true) fun _ _ _ => False)
    (hCX : ∀ H e s', CX [] H s₁ (fun _ _ _ => False) e s' → False) : LawGoal P w fa a s₁ := by
  have main : ∀ H : Hp, Only H → SqL K H a (ns.map V.int) → HOk P w H s₁.heap → (∀ b, H b ≠ none → b = a ∧ K.lookup a = none) → LawGoal P w fa a s₁ := by
    intro H hO hS hok only
    -- what is untracked stands in the base
    have up : ∀ {b : Addr} {o : Obj}, s₁.heap.get? b = some o → H b = none → (hidT s₁.heap H).get? b = some o := fun e n => hidT_get e n
    have free : ∀ {b : Addr} {o : Obj} {es : Array DictEntry} {ep : Nat}, s₁.heap.get? b = some o → o.data = .dict es ep → H b = none := by
      intro b o es ep e d
      refine Classical.byContradiction fun nz => ?_
      obtain ⟨rfl, _⟩ := only b nz
      rw [ha] at e
      cases e
      exact nomatch (show Data.seq vs.toArray _ = Data.dict es ep from d)
    have nsUp : ∀ {b : Addr} {m : Str → Option Value}, s₁.heap.Ns b m → (hidT s₁.heap H).Ns b m := fun ⟨o, es, ep, e, d, r⟩ => ⟨o, es, ep, up e (free e d), d, r⟩
    have KB : K.In (hidT s₁.heap H) := fun b o e => up (KX b o e) (Classical.byContradiction fun nz => by
      obtain ⟨rfl, hk⟩ := only b nz
      rw [hk] at e
      cases e)
    have none0 : ∀ b : Addr, b ∉ frs ([] : List Env) := fun b z => absurd (show b ∈ ([] : List Addr) from z) (by simp)
    have E0 : Env0 P w K mg (hidT s₁.heap H) callerA [] s₁ H :=
      ⟨rfl, ⟨KB, nsUp hns, ⟨mb, nsUp hb, hbb⟩, let ⟨mc, h1, h2⟩ := hlim; ⟨mc, nsUp h1, h2⟩⟩, fun b o e => of_hidT e, Nat.le_of_eq (hidT_size _ _), trivial, fun b z => absurd z (none0 b), hok, .of_eq hg⟩
    refine codeAny_mono ((F _ KB (nsUp hns)).run callerA [] s₁ H ⟨[.ref a], []⟩ [.ref a] [.ref a] _ _ rfl hr E0 (hbind s₁ (.ref a)) (.cons rfl .nil) (hsp H hO hS)) fun r s' h => ?_
    match r, h with
    | .error e, h => exact (hCX H e s' h).elim
    | .ok .next, h => exact h.elim
    | .ok .brk, h => exact h.elim
    | .ok .cont, h => exact h.elim
    | .ok (.ret u), ⟨v, H', os, bare, un, hok', rz, q⟩ =>
      cases (show v = .bl true from q)
      cases (show u = Value.bool true from rz)
      refine ⟨rfl, OldK.of_keep fun b o e => ?_, os, bare⟩
      cases hb' : H b with
      | none => exact un.keep b o e hb' (none0 b) (by simp)
      | some y =>
        rcases hO b with z | ⟨ob, ys, z⟩
        · rw [hb'] at z
          cases z
        · have o1 := (hok b _ z).1
          have o2 := (hok' b _ (un.frzs b ob _ z)).1
          rw [e] at o1
          cases o1
          exact o2
  have rv := vals_ints hi
  have hlen := hi.length
  by_cases hk : K.lookup a = none
  · refine main (fun b => if b = a then some (.frz { cls := .type "list", data := .seq vs.toArray } (.lst (ns.map V.int))) else none) (fun b => ?_) (.inl (.inr ⟨_, if_pos rfl⟩)) (fun b u z => ?_) (fun b z => ?_)
    · by_cases e : b = a
      · exact .inr ⟨_, _, if_pos e⟩
      · exact .inl (if_neg e)
    · by_cases e : b = a
      · subst e
        cases (if_pos rfl).symm.trans z
        exact ⟨ha, by rw [List.length_map]; exact hl, vs, _, rv, ha⟩
      · cases (if_neg e).symm.trans z
    · by_cases e : b = a
      · exact ⟨e, hk⟩
      · exact absurd (if_neg e) z
  · cases ho : K.lookup a with
    | none => exact absurd ho hk
    | some o =>
      have e := KX a o ho
      rw [ha] at e
      cases e
      exact main (fun _ => none) (fun _ => .inl rfl) (.inr ⟨_, vs.toArray, _, ho, rfl, rfl, rfl, by rw [List.size_toArray, hlen]; exact hl, by simpa using rv⟩) (fun b u z => by cases z) (fun b z => absurd rfl z)
end
/-- a law: F gives the written part, the function object, the promise over every base -/
theorem walk_ofG {l : PySem.W.OpenLaw} {n k : Nat} {q : Program} {loose : List Str} {XP : (Str → Option Value) → Heap → Prop} {YP : World → Heap → Prop} {d : DefRec} {CX : World → CXT} {x : Str}
    (hn : l.most = some n) (hn2 : n ≤ sizeLine) (hdf : d.params.defaults = []) (hr : Room k callerA)
    (F : ∀ (w : World) (mg : Str → Option Value) (fa : Addr) (h : Heap), YP w h → h.Ns mainGlobals mg → mg d.name = some (.ref fa) →
      ∃ (K : PySem.W.Frag) (fd : FuncData) (sp : Sp), K.In h ∧ (∀ (s : Shared) (u : Value), BindsTo s fd ⟨[u], []⟩ [(x, u)]) ∧
        (∀ (H : Hp) (a : Addr) (ns : List Int), ns.length ≤ n → Only H → SqL K H a (ns.map V.int) → sp [.ref a] H (fun v _ => v = .bl true) fun _ _ _ => False) ∧
        ∀ base : Heap, K.In base → base.Ns mainGlobals mg → FnG l.prog w K mg base (CX w) k fa fd [x] sp)
    (hCX : ∀ (w : World) (H : Hp) (s : Shared) (e : Value) (s' : Shared), CX w [] H s (fun _ _ _ => False) e s' → False) :
    PySem.W.WalkO q loose XP YP l.row.toRowW d [] (fun f vs => PySem.call f vs) := by
  refine Att.attach_call hn hdf fun w s₀ s₁ mg mb fa o pm cd doc a vs ns G Y ho hd hcd hmg hobj hints hlen hg => ?_
  obtain ⟨K, fd, sp, KX, h1, h2, h3⟩ := F w mg fa _ Y G.T.g hmg
  exact law_callG KX G.T.g G.T.b G.T.builtins G.T.nolimit hg hobj hints (Nat.le_trans hlen hn2) hr h3 h1 (fun H hO hS => h2 H a ns hlen hO hS) fun H e s' => hCX w H s₁ e s'
end L2
namespace L2
open PySem PySem.Spec PyProof.Rows
/-! ### match over sequences of names -/
abbrev TM := V → TS
structure PMs (X : Cx) (cs : List MatchCase) (t : TM) : Prop where
  run : ∀ (pins : List (Addr × Obj)) (s : Shared) (σ : St) (H : Hp) (D : Ends) (v : V) (u : Value) (first : Bool), Inv X pins σ H s → RelV v u → t v D σ H → wpAny (model X.prog X.w) X.A (matchCases cs X.env u first) (SP X pins D) X.xe s
section
variable {X : Cx} {pos pp pq : Pos} {body : List Stmt} {rest : List MatchCase} {t : TS} {r : TM}
theorem ps_match {e : Expr} {te : TE} {cs : List MatchCase} {tm : TM} (he : PE X e te) (h : PMs X cs tm) : PS X (.Match e cs pos) (fun D σ H => te σ H fun v H1 => tm v D σ H1) :=
  ⟨fun pins s σ H D I hw => wpAny_Match (thn (he.run pins s σ H _ I hw) fun u s1 ⟨v, H1, I1, rv, q⟩ => h.run pins s1 σ H1 D v u true I1 rv q)⟩
/-- case _ -/
theorem pm_any (hb : PSs X body t) : PMs X (⟨.MatchAs none none pp, none, body⟩ :: rest) (fun _ => t) :=
  ⟨fun pins s σ H D v u first I rv hw => wpAny_matchCases_cons (wpAny_matchPattern_Capture (wpAny_assignInOrder_none (hb.run pins s σ H D I hw)))⟩
def seqLen : PyData → Option Nat
  | .tuple ds => some ds.length
  | .list ds => some ds.length
  | _ => none
/-- how a value meets a pattern of n names: its items, or not -/
def tSeqCase (K : PySem.W.Frag) (n : Nat) (hit : List V → TS) (miss : TM) : TM := fun v D σ H => ∃ d, Dq K H v d ∧ ((∀ a xs ds, v = .ref a → (d = .tuple ds ∧ SqT K H a xs ∨ d = .list ds ∧ SqL K H a xs) → DqA K H xs ds → xs.length = n → hit xs D σ H) ∧ (seqLen d ≠ some n → miss v D σ H))
theorem ty_flag {pins : List (Addr × Obj)} {s : Shared} {σ : St} {H : Hp} {v : V} {u : Value} {d : PyData} (I : Inv X pins σ H s) (rv : RelV v u) (hd : Dq X.K H v d) (hn : seqLen d = none) {Q : Bool → Shared → Prop} {E : Value → Shared → Prop} (q : Q false s) :
    wpAny (model X.prog X.w) X.A (collectionFlag true u) Q E s := by
  cases hd with
  | non => cases (show u = Value.none from rv); exact wpAny_collectionFlag (T := "NoneType") rfl flag_seq_None q
  | bl b => cases (show u = Value.bool b from rv); exact wpAny_collectionFlag (T := "bool") rfl flag_seq_bool q
  | int i => obtain ⟨t, rfl⟩ := (show ∃ t, u = Value.int i t from rv); exact wpAny_collectionFlag (T := "int") rfl flag_seq_int q
  | str x _ => obtain ⟨t, rfl⟩ := (show ∃ t, u = Value.str x t from rv); exact wpAny_collectionFlag (T := "str") rfl flag_seq_str q
  | lst _ _ => cases hn
  | tup _ _ => cases hn
  | @dct a h =>
    cases rv
    obtain ⟨_, _, vs, _, o, es, ep, h1, h2, _⟩ := (show ObjOk X.prog X.w H s.heap a (.dK []) from I.hok a _ h)
    exact wpAny_collectionFlag (T := "dict") ⟨o, h1, h2.1⟩ flag_seq_dict q
theorem seq_pat {pins : List (Addr × Obj)} {s : Shared} {σ : St} {H : Hp} {v : V} {u : Value} {d : PyData} {ps : List Pattern} {Q : Option (List (Str × Value)) → Shared → Prop} (hc : X.calm = true) (I : Inv X pins σ H s) (rv : RelV v u) (hd : Dq X.K H v d)
    (hit : ∀ a xs ds its s', v = .ref a → (d = .tuple ds ∧ SqT X.K H a xs ∨ d = .list ds ∧ SqL X.K H a xs) → DqA X.K H xs ds → xs.length = ps.length → Vals xs its → Inv X pins σ H s' → wpAny (model X.prog X.w) X.A (matchEach ps X.env its) Q X.xe s')
    (miss : seqLen d ≠ some ps.length → ∀ s', Inv X pins σ H s' → Q none s')
    (hstar : ps.findIdx? (·.isStar) = none := by rfl) (hwild : (ps.all fun p => p.isWildcard || (p.isStar && p.names.isEmpty)) = false := by rfl) :
    wpAny (model X.prog X.w) X.A (matchPattern (.MatchSequence ps pos) X.env u) Q X.xe s := by
  have fit : ∀ {xs : List V} {its : List Value}, Vals xs its → xs.length ≤ sizeLine → (its.toArray.size : Int) < 2 ^ 63 := fun {xs its} r h => by
    have e := r.length
    have z := line63
    simp only [List.size_toArray]
    omega
  have kept : ∀ {h' : Heap}, Heap.ExtBut s.heap.objs.size s.heap h' → Inv X pins σ H { s with heap := h', toks := s.toks + 1 + 1 } := fun hx => I.kept (t' := s.toks + 1 + 1) fun b o e => hx b o (Nat.ne_of_lt (Heap.lt_size e)) e
  have plain : seqLen d = none → wpAny (model X.prog X.w) X.A (matchPattern (.MatchSequence ps pos) X.env u) Q X.xe s := fun hn => by
    refine wpAny_matchPattern_Sequence (ty_flag I rv hd hn ?_) hstar hwild
    show Q none s
    exact miss (by rw [hn]; exact nofun) s I
  cases hd with
  | @tup a xs ds hs ha =>
    cases rv
    obtain ⟨its, rz, ht, hz⟩ := I.tuple hs
    have el : xs.length = ds.length := ha.len
    have ei : its.toArray.size = xs.length := by simp [rz.length]
    by_cases hn : its.toArray.size = ps.length
    · refine matchSeq_tuple_hit ht (fit rz hz) hn ?_ hstar hwild
      rw [← hn]
      refine unpackItems_tuple (I.ok.hd hc) ht fun h' hx => ?_
      exact hit a xs ds its _ rfl (.inl ⟨rfl, hs⟩) ha (ei.symm.trans hn) rz (kept hx)
    · exact matchSeq_tuple_miss ht (fit rz hz) hn (miss (fun z => hn (by rw [ei, el]; exact Option.some.inj z)) _ (I.tok _)) hstar hwild
  | @lst a xs ds hs ha =>
    cases rv
    obtain ⟨its, rz, pl, hz⟩ := I.list hs
    have hl' : s.heap.IsList a its.toArray := by
      obtain ⟨o, m, e, c, d, q⟩ := pl
      exact ⟨o, e, c, m, q⟩
    have el : xs.length = ds.length := ha.len
    have ei : its.toArray.size = xs.length := by simp [rz.length]
    by_cases hn : its.toArray.size = ps.length
    · refine matchSeq_list_hit hl' (fit rz hz) hn ?_ hstar hwild
      rw [← hn]
      refine PySem.W.kun_itemsOf (I.ok.hd hc) hl' fun h' hx => ?_
      exact hit a xs ds its _ rfl (.inr ⟨rfl, hs⟩) ha (ei.symm.trans hn) rz (kept hx)
    · exact matchSeq_list_miss hl' (fit rz hz) hn (miss (fun z => hn (by rw [ei, el]; exact Option.some.inj z)) _ (I.tok _)) hstar hwild
  | non => exact plain rfl
  | bl b => exact plain rfl
  | int i => exact plain rfl
  | str x h => exact plain rfl
  | dct h => exact plain rfl
/-- case (x,) -/
theorem pm_seq1 {i : Nat} {x : Str} (hc : X.calm = true) (nd : X.N.Nodup) (hi : X.N[i]? = some x) (hx : X.env.scope.names.lookup x = some .local) (hb : PSs X body t) (hr : PMs X rest r) :
    PMs X (⟨.MatchSequence [.MatchAs none (some x) pp] pq, none, body⟩ :: rest) (tSeqCase X.K 1 (fun xs D σ H => ∀ y, xs = [y] → t D (σ.set i (some y)) H) r) := by
  refine ⟨fun pins s σ H D v u first I rv hw => ?_⟩
  obtain ⟨d, hd, h1, h2⟩ := hw
  refine wpAny_matchCases_cons (seq_pat hc I rv hd (fun a xs ds its s' ev hs ha hl rz I' => ?_) (fun ne s' I' => hr.run pins s' σ H D v u false I' rv (h2 ne)))
  obtain ⟨y, rfl⟩ : ∃ y, xs = [y] := by
    match xs, hl with
    | [y], _ => exact ⟨y, rfl⟩
  obtain ⟨z, rfl, ry⟩ := vals1 rz
  refine wpAny_matchEach_cons (wpAny_matchPattern_Capture (wpAny_matchEach_nil ?_))
  refine wpAny_assignInOrder_more (wpAny_bindName ?_)
  refine store_ok I' nd hi (.inl hx) ry (fun s2 I2 => ?_) (.inr hx)
  exact wpAny_assignInOrder_none (hb.run pins s2 _ H D I2 (h1 a [y] ds ev hs ha rfl y rfl))
/-- case (x, y) -/
theorem pm_seq2 {i j : Nat} {x z : Str} {pr : Pos} (hc : X.calm = true) (nd : X.N.Nodup) (hi : X.N[i]? = some x) (hj : X.N[j]? = some z) (hx : X.env.scope.names.lookup x = some .local) (hz : X.env.scope.names.lookup z = some .local) (hb : PSs X body t) (hr : PMs X rest r) :
    PMs X (⟨.MatchSequence [.MatchAs none (some x) pp, .MatchAs none (some z) pr] pq, none, body⟩ :: rest) (tSeqCase X.K 2 (fun xs D σ H => ∀ y1 y2, xs = [y1, y2] → t D ((σ.set i (some y1)).set j (some y2)) H) r) := by
  refine ⟨fun pins s σ H D v u first I rv hw => ?_⟩
  obtain ⟨d, hd, h1, h2⟩ := hw
  refine wpAny_matchCases_cons (seq_pat hc I rv hd (fun a xs ds its s' ev hs ha hl rz I' => ?_) (fun ne s' I' => hr.run pins s' σ H D v u false I' rv (h2 ne)))
  obtain ⟨y1, y2, rfl⟩ : ∃ y1 y2, xs = [y1, y2] := by
    match xs, hl with
    | [y1, y2], _ => exact ⟨y1, y2, rfl⟩
  obtain ⟨z1, z2, rfl, ry1, ry2⟩ := vals2 rz
  refine wpAny_matchEach_cons (wpAny_matchPattern_Capture (wpAny_matchEach_cons (wpAny_matchPattern_Capture (wpAny_matchEach_nil ?_))))
  refine wpAny_assignInOrder_more (wpAny_bindName ?_)
  refine store_ok I' nd hi (.inl hx) ry1 (fun s2 I2 => ?_) (.inr hx)
  refine wpAny_assignInOrder_more (wpAny_bindName ?_)
  refine store_ok I2 nd hj (.inl hz) ry2 (fun s3 I3 => ?_) (.inr hz)
  exact wpAny_assignInOrder_none (hb.run pins s3 _ H D I3 (h1 a [y1, y2] ds ev hs ha rfl y1 y2 rfl))
end
end L2
namespace L2
open PySem PySem.Spec PyProof.Rows
/-! ### C(e, .., k = v, ..) within a try: what is raised is wished for at the slots -/
def tMakeKS (C : Addr) (n m : Nat) (sp : Sp) (gV : List V → List V → List V) (E : St → XK) (t tk : TA) : TE := fun σ H Q => t σ H fun vs H1 => tk σ H1 fun zs H2 => vs.length = n ∧ zs.length = m ∧ ∀ x dx, H2 x = none → H2 dx = none → dx ≠ x →
  sp (gV (.ref x :: vs) zs) (upd (upd H2 dx (.own x)) x (.ins C dx [])) (fun v H3 => v = .non ∧ Q (.ref x) H3) (E σ)
section
variable {X : Cx} {CX : CXT} {k n : Nat} {f C : Addr} {fd : FuncData} {ps ks : List Str} {sp : Sp} {x : Str} {p pos : Pos} {e : Expr} {es : List Expr} {kws : List Keyword} {t tk : TA} {g : List Value → List Value → List Value} {gV : List V → List V → List V}
theorem run_makeKS {E : XK} {pins : List (Addr × Obj)} {σ : St} {H : Hp} {s : Shared} {Q : VK} {us ws : List Value} {vs zs : List V} (M : Mk X.K C f) (F : FnOk X.prog X.w X.K X.mg X.base CX k f fd ps sp) (hr : Room (k + 1) X.A) (hb : KBn X.K fd ps (n + 1) ks g gV) (hx : PassesAt CX X σ E)
    (I : Inv X pins σ H s) (r : Vals vs us) (rz : Vals zs ws) (l1 : vs.length = n) (l2 : zs.length = ks.length)
    (h : ∀ x dx, H x = none → H dx = none → dx ≠ x → sp (gV (.ref x :: vs) zs) (upd (upd H dx (.own x)) x (.ins C dx [])) (fun v H2 => v = .non ∧ Q (.ref x) H2) E) :
    wpAny (model X.prog X.w) X.A (call (.ref C) us (ks.zip ws)) (EP X pins σ Q) X.xe s := by
  have J := Inv.made (C := C) I
  have hh := h (s.heap.objs.size + 1) s.heap.objs.size (I.hok.fresh (Nat.le_succ _)) (I.hok.fresh (Nat.le_refl _)) (Nat.ne_of_lt (Nat.lt_succ_self _))
  have rr := hb.rel (Paired.cons (show RelV (V.ref (s.heap.objs.size + 1)) (Value.ref (s.heap.objs.size + 1)) from rfl) r) rz
  have ln : (Value.ref (s.heap.objs.size + 1) :: us).length = n + 1 := congrArg (· + 1) (r.length.symm.trans l1)
  have go := F.run _ X.stack _ _ ⟨Value.ref (s.heap.objs.size + 1) :: us, ks.zip ws⟩ _ _ _ E (hr.make C us (ks.zip ws)) (J.env0.make C us (ks.zip ws)) (hb.to _ (Value.ref (s.heap.objs.size + 1) :: us) ws J.kIn ln (rz.length.symm.trans l2)) rr hh
  refine wpAny_call (make_map (f := f) I.kIn M.makes M.init (beq_iff_eq.mp M.fn) (codeAny_mono go fun r s' hq => ?_))
  match r, hq with
  | .error e, hq => exact hx pins _ _ e s' J hq
  | .ok (.ret u), hq =>
    obtain ⟨v, H', I3, rv, rfl, q3⟩ := J.after hq
    exact ⟨rv, ⟨V.ref (s.heap.objs.size + 1), H', I3, rfl, q3⟩⟩
  | .ok .next, hq => exact hq.elim
  | .ok .brk, hq => exact hq.elim
  | .ok .cont, hq => exact hq.elim
theorem pe_makeKS {E : St → XK} (M : Mk X.K C f) (F : FnOk X.prog X.w X.K X.mg X.base CX k f fd ps sp) (hr : Room (k + 1) X.A) (hg : Gl X x) (hm : X.mg x = some (.ref C)) (hb : KBn X.K fd ps (n + 1) ks g gV) (hx : ∀ σ, PassesAt CX X σ (E σ)) (ha : PA X (e :: es) t) (hkw : PK X kws tk)
    (hall : (backToKw pos (keywordEach kws X.env)).all (·.1.isSome) = true := by rfl) (hks : (backToKw pos (keywordEach kws X.env)).filterMap (·.1) = ks := by rfl) (hdb : (x == ("__debug__" : Str)) = false := by decide)
    (he : starEach (e :: es) X.env = (false, eval e X.env) :: starEach es X.env := by rfl) (hpl : ((backTo pos (starEach (e :: es) X.env)).any (·.1) || (backToKw pos (keywordEach kws X.env)).any (·.1.isNone)) = false := by rfl) :
    PE X (.Call (.Name x p) (e :: es) kws pos) (tMakeKS C n ks.length sp gV E t tk) := by
  refine ⟨fun pins s σ H Q I h => wpAny_Call_Name_kw (ld_glob I hg hm (PySem.W.callWith_KW (h₀ := X.base) I.ok.mod.kin M.kp hall (thn (ha.run pos pins s σ H _ I h) fun us s1 hh => ?_) hpl he) hdb)⟩
  obtain ⟨vs, H1, I1, r, q⟩ := hh
  refine thn (hkw.run pos pins s1 σ H1 _ I1 q) fun ws s2 ⟨zs, H2, I2, rz, l1, l2, q2⟩ => ⟨I2.kIn, ?_⟩
  rw [hks]
  exact run_makeKS M F hr hb (hx σ) I2 r rz l1 l2 q2
end
end L2
namespace L2
open PySem PySem.Spec PyProof.Rows
/-! ### written data: a display as one step -/
/-- what stands in H' and did not in H -/
def newOf (H H' : Hp) : Hp := fun b => if H b = none then H' b else none
theorem newOf_some {H H' : Hp} {b : Addr} {o : HO} (h : newOf H H' b = some o) : H b = none ∧ H' b = some o := by
  unfold newOf at h
  by_cases e : H b = none
  · rw [if_pos e] at h
    exact ⟨e, h⟩
  · rw [if_neg e] at h
    cases h
theorem newOf_of {H H' : Hp} {b : Addr} {o : HO} (h1 : H b = none) (h2 : H' b = some o) : newOf H H' b = some o := by
  unfold newOf
  rw [if_pos h1]
  exact h2
theorem newOf_right {H H1 H2 : Hp} (s : Same H1 H2) : Same (newOf H H1) (newOf H H2) := fun b o e => by
  obtain ⟨a, c⟩ := newOf_some e
  exact newOf_of a (s b o c)
theorem newOf_left {H H1 H2 : Hp} (s : Same H H1) : Same (newOf H1 H2) (newOf H H2) := fun b o e => by
  obtain ⟨a, c⟩ := newOf_some e
  exact newOf_of (s.free a) c
theorem newOf_in {H H' : Hp} : Same (newOf H H') H' := fun b o e => (newOf_some e).2
/-- a heap that knows nothing of p -/
def hid (p : Addr) (H : Hp) : Hp := fun b => if b = p then none else H b
theorem newOf_hid {H H' : Hp} {p : Addr} {o : HO} (h : H p = some o) : Same (newOf H H') (hid p H') := fun b u e => by
  obtain ⟨a, c⟩ := newOf_some e
  unfold hid
  rw [if_neg (fun z => by rw [z, h] at a; cases a)]
  exact c
theorem hid_p {p : Addr} {H : Hp} : hid p H p = none := if_pos rfl
theorem hid_in {p : Addr} {H : Hp} : Same (hid p H) H := fun b o e => by
  unfold hid at e
  by_cases z : b = p
  · rw [if_pos z] at e
    cases e
  · rw [if_neg z] at e
    exact e
/-- what H₀ does not know may change -/
theorem Same.mut {H₀ H : Hp} {p : Addr} {o : HO} (s : Same H₀ H) (h : H₀ p = none) : Same H₀ (upd H p o) := fun b u e => by
  rw [upd_ne (ne_of_none e h)]
  exact s b u e
theorem Same.new' {H : Hp} {p : Addr} {o : HO} (h : H p = none) : Same H (upd H p o) := (Same.refl H).mut h
def tLit (K : PySem.W.Frag) (d : PyData) : TE := fun _ H Q => ∀ v H', Same H H' → Dq K (newOf H H') v d → Q v H'
def tLitA (K : PySem.W.Frag) (ds : List PyData) : TA := fun _ H Q => ∀ vs H', Same H H' → DqA K (newOf H H') vs ds → Q vs H'
/-- a list whose place is told: it may be changed -/
def tLitL (K : PySem.W.Frag) (ds : List PyData) : TE := fun _ H Q => ∀ r vs H', H r = none → Same H H' → Same H (upd H' r (.lst vs)) → H' r = none → DqA K (newOf H H') vs ds → Q (.ref r) (upd H' r (.lst vs))
section
variable {X : Cx} {pos : Pos}
theorem PE.imp {e : Expr} {t t' : TE} (h : PE X e t) (f : ∀ σ H Q, t' σ H Q → t σ H Q) : PE X e t' := ⟨fun pins s σ H Q I q => h.run pins s σ H Q I (f σ H Q q)⟩
theorem PA.imp {es : List Expr} {t t' : TA} (h : PA X es t) (f : ∀ σ H Q, t' σ H Q → t σ H Q) : PA X es t' := ⟨fun p pins s σ H Q I q => h.run p pins s σ H Q I (f σ H Q q)⟩
theorem pl_int {i j} : PE X (.Constant (.int i) j pos) (tLit X.K (.int i)) := pe_int.imp fun _ H Q q => q _ H (Same.refl H) (.int i)
theorem pl_neg {i j} {p : Pos} : PE X (.UnaryOp .USub (.Constant (.int i) j p) pos) (tLit X.K (.int (-i))) := (pe_un un_neg pe_int).imp fun _ H Q q => ⟨i, rfl, q _ H (Same.refl H) (.int (-i))⟩
theorem pl_bl {b j} : PE X (.Constant (.bool b) j pos) (tLit X.K (.bool b)) := pe_bl.imp fun _ H Q q => q _ H (Same.refl H) (.bl b)
theorem pl_non {j} : PE X (.Constant .none j pos) (tLit X.K .none) := pe_non.imp fun _ H Q q => q _ H (Same.refl H) .non
theorem pl_str {x j} (h : x.length ≤ sizeLine := by decide) : PE X (.Constant (.str x) j pos) (tLit X.K (.str x)) := pe_str.imp fun _ H Q q => q _ H (Same.refl H) (.str x h)
theorem pla_nil : PA X [] (tLitA X.K []) := pa_nil.imp fun _ H Q q => q _ H (Same.refl H) .nil
theorem pla_cons {e : Expr} {es : List Expr} {d : PyData} {ds : List PyData} (h : PE X e (tLit X.K d)) (r : PA X es (tLitA X.K ds)) (he : starEach (e :: es) X.env = (false, eval e X.env) :: starEach es X.env := by rfl) : PA X (e :: es) (tLitA X.K (d :: ds)) :=
  (pa_cons h r he).imp fun σ H Q q v H1 s1 hd vs H2 s2 hds => q _ H2 (s1.trans s2) (.cons (hd.up (newOf_right s2)) (hds.up (newOf_left s1)))
theorem pl_tup {es : List Expr} {k : Nat} {ds : List PyData} (h : PA X es (tLitA X.K ds)) (hz : ds.length ≤ sizeLine := by decide) : PE X (.Tuple es k pos) (tLit X.K (.tuple ds)) :=
  (pe_tup h).imp fun σ H Q q vs H1 s1 hds => ⟨by rw [hds.len]; exact hz, fun p hp => q _ _ (s1.trans (Same.new' hp)) (.tup (SqT.of (newOf_of (s1.free hp) upd_same)) (hds.up (newOf_right (Same.new' hp))))⟩
theorem pl_lst {es : List Expr} {ds : List PyData} (h : PA X es (tLitA X.K ds)) (hz : ds.length ≤ sizeLine := by decide) : PE X (.List es pos) (tLit X.K (.list ds)) :=
  (pe_lst h).imp fun σ H Q q vs H1 s1 hds => ⟨by rw [hds.len]; exact hz, fun p hp => q _ _ (s1.trans (Same.new' hp)) (.lst (SqL.of (newOf_of (s1.free hp) upd_same)) (hds.up (newOf_right (Same.new' hp))))⟩
theorem pl_lstL {es : List Expr} {ds : List PyData} (h : PA X es (tLitA X.K ds)) (hz : ds.length ≤ sizeLine := by decide) : PE X (.List es pos) (tLitL X.K ds) :=
  (pe_lst h).imp fun σ H Q q vs H1 s1 hds => ⟨by rw [hds.len]; exact hz, fun p hp => q p vs H1 (s1.free hp) s1 (s1.trans (Same.new' hp)) hp hds⟩
theorem pl_dct : PE X (.Dict [] [] pos) (tLit X.K (.dict [])) := pe_dnewK.imp fun σ H Q q d hd => q _ _ (Same.new' hd) (.dct (newOf_of hd upd_same))
end
end L2
namespace K03
open PySem PySem.Spec PyProof.Rows L2
def top (i : Nat) : Stmt := PySem.Challenge.pw_mostcalls_k03_policies_refused.main.body.getD i (.Pass ⟨0, 0, 0, 0⟩)
abbrev s_is_integer : Stmt := top 7
abbrev s_is_between : Stmt := top 8
abbrev s_is_name : Stmt := top 9
abbrev s_is_ending : Stmt := top 19
abbrev s_are_pauses : Stmt := top 20
abbrev s_wrong_field : Stmt := top 21
abbrev s_Policy_init : Stmt := inClass (top 22) 0
abbrev FnP (K : PySem.W.Frag) (x : Str) (st : Stmt) (f : Addr) (fd : FuncData) : Prop := FunD K x x (defArgs st) (defBody st) (defScope st) [] [] f fd
/-- the built-in names that the module leaves alone -/
structure Blt (mg : Str → Option Value) : Prop where
  isi : mg "isinstance" = none
  int : mg "int" = none
  bool : mg "bool" = none
  str : mg "str" = none
  tuple : mg "tuple" = none
  len : mg "len" = none
  all : mg "all" = none
  mxl : ∃ t, mg "MAX_LETTERS" = some (.int 8 t)
  mxp : ∃ t, mg "MAX_PAUSE" = some (.int 8 t)
  mxt : ∃ t, mg "MAX_TRIES" = some (.int 3 t)
  mxm : ∃ t, mg "MAX_LIMIT" = some (.int 20 t)
  mxd : ∃ t, mg "MAX_DELAY" = some (.int 20 t)
  go : ∃ t, mg "GO" = some (.str "go" t)
  stop : ∃ t, mg "STOP" = some (.str "stop" t)
  dead : ∃ t, mg "DEADLINE" = some (.str "deadline" t)
  let_ : ∃ t, mg "LETTERS" = some (.str "abcdefghijklmnopqrstuvwxyz" t)
/-! ### the mirrors -/
def isInt (d : PyData) : Bool := isA d "int" && !isA d "bool"
def isBetw (d : PyData) (lo hi : Int) : Bool := match d with
  | .int i => decide (lo ≤ i) && decide (i ≤ hi)
  | _ => false
theorem isInt_eq : ∀ d : PyData, isInt d = (match d with | .int _ => true | _ => false) := by
  intro d
  unfold isInt isA
  cases d <;> (unfold tyD; dsimp only; decide +kernel)
def isLow (c : Nat) : Bool := decide (c ∈ ("abcdefghijklmnopqrstuvwxyz" : Str).cps.toList)
def isName (d : PyData) : Bool := match d with
  | .str x => decide (1 ≤ x.length) && (decide (x.length ≤ 8) && x.cps.toList.all isLow)
  | _ => false
def isEnding (d : PyData) : Bool := match d with
  | .tuple [.str w] => w == "go" || w == "deadline"
  | .tuple [.str w, e] => w == "stop" && isBetw e 0 20
  | _ => false
def arePauses (d : PyData) (n : Int) : Bool := match d with
  | .tuple ds => decide ((ds.length : Int) = n - 1) && ds.all fun e => isBetw e 0 8
  | _ => false
def notN : PyData → Bool | .none => false | _ => true
def intOf : PyData → Int | .int i => i | _ => 0
def ltTwo : PyData → Bool | .int i => decide (i < 2) | _ => true
def wrongField (dl dt dp de dy dn : PyData) : Option Str :=
  cond (isBetw dl 1 20) (cond (isBetw dt 1 3) (cond (notN dp && (notN de || !arePauses dp (intOf dt))) (some "pauses")
    (cond (notN de && (ltTwo dt || !isBetw de 1 20)) (some "early") (cond (isBoolD dy) (cond (isEnding dn) none (some "ending")) (some "lossy")))) (some "tries")) (some "limit")
def oStr : Option Str → V | none => .non | some x => .str x
/-! ### the promises -/
def spPauses (K : PySem.W.Frag) : Sp := fun vs H Q _ => ∃ (v : V) (d : PyData) (n : Int), vs = [v, .int n] ∧ n ≤ 100 ∧ Dq K H v d ∧ ∀ H', Same H H' → Q (.bl (arePauses d n)) H'
def spWrong (K : PySem.W.Frag) : Sp := fun vs H Q _ => ∃ (v0 v1 v2 v3 v4 v5 : V) (d0 d1 d2 d3 d4 d5 : PyData), vs = [v0, v1, v2, v3, v4, v5] ∧ Dq K H v0 d0 ∧ Dq K H v1 d1 ∧ Dq K H v2 d2 ∧ Dq K H v3 d3 ∧ Dq K H v4 d4 ∧ Dq K H v5 d5 ∧
  ∀ H', Same H H' → Q (oStr (wrongField d0 d1 d2 d3 d4 d5)) H'
def spEnding (K : PySem.W.Frag) : Sp := fun vs H Q _ => ∃ (v : V) (d : PyData), vs = [v] ∧ Dq K H v d ∧ ∀ H', Same H H' → Q (.bl (isEnding d)) H'
def spInt (K : PySem.W.Frag) : Sp := fun vs H Q _ => ∃ (v : V) (d : PyData), vs = [v] ∧ Dq K H v d ∧ Q (.bl (isInt d)) H
def spBetw (K : PySem.W.Frag) : Sp := fun vs H Q _ => ∃ (v : V) (d : PyData) (lo hi : Int), vs = [v, .int lo, .int hi] ∧ Dq K H v d ∧ Q (.bl (isBetw d lo hi)) H
def spName (K : PySem.W.Frag) : Sp := fun vs H Q _ => ∃ (v : V) (d : PyData), vs = [v] ∧ Dq K H v d ∧ ∀ H', Same H H' → Q (.bl (isName d)) H'
section
variable {P : Program} {w : World} {K : PySem.W.Frag} {mg : Str → Option Value} {base : Heap} {f g : Addr} {fd gd : FuncData} {CX : CXT}
theorem sc_is_integer : FnScope ["value"] ["value"] (defScope s_is_integer) := ⟨rfl, rfl, rfl, by decide +kernel, rfl, by decide +kernel, by decide +kernel⟩
theorem ok_is_integer (F : FnP K "is_integer" s_is_integer f fd) (B : Blt mg) : FnOk P w K mg base CX0 1 f fd ["value"] (spInt K) := by
  refine F.ok sc_is_integer (fun vs H Q E h => ?_) (fun cdv A outer s H vs Q E hr h => ?_)
  · obtain ⟨v, d, rfl, _⟩ := h
    rfl
  · obtain ⟨v, d, rfl, hd, q⟩ := h
    refine ⟨_, pss_one (ps_ret (pe_and (pe_callB call_isD (by rfl) B.isi boot_isinstance (pa_cons (pv 0) (pa_cons (pe_bltn (v := .ty "int") (by rfl) B.int (by decide +kernel) rfl) pa_nil)))
      (pe_one (pe_not (pe_callB call_isD (by rfl) B.isi boot_isinstance (pa_cons (pv 0) (pa_cons (pe_bltn (v := .ty "bool") (by rfl) B.bool (by decide +kernel) rfl) pa_nil))))))), ?_⟩
    refine ⟨_, rfl, v, d, "int", rfl, hd, tok_int, _, rfl, ?_⟩
    unfold isInt at q
    cases e : isA d "int" with
    | true =>
      rw [e] at q
      exact iteT ⟨_, rfl, v, d, "bool", rfl, hd, tok_bool, _, rfl, q⟩
    | false =>
      rw [e] at q
      exact iteF q
theorem sc_is_between : FnScope ["value", "low", "high"] ["value", "low", "high"] (defScope s_is_between) := ⟨rfl, rfl, rfl, by decide +kernel, rfl, by decide +kernel, by decide +kernel⟩
theorem ok_is_between (F : FnP K "is_between" s_is_between f fd) (G : FnP K "is_integer" s_is_integer g gd) (gg : mg "is_integer" = some (.ref g)) (B : Blt mg) : FnOk P w K mg base CX0 2 f fd ["value", "low", "high"] (spBetw K) := by
  have b : Binds K gd ["value"] [] := G.bindsN fun _ _ _ _ _ _ us hl => match us, hl with | [_], _ => rfl
  refine F.ok sc_is_between (fun vs H Q E h => ?_) (fun cdv A outer s H vs Q E hr h => ?_)
  · obtain ⟨v, d, lo, hi, rfl, _⟩ := h
    rfl
  · obtain ⟨v, d, lo, hi, rfl, hd, q⟩ := h
    refine ⟨_, pss_one (ps_ret (pe_and (pe_call (ok_is_integer G B) hr rfl gg G.kp b .nil pass0 (pa_cons (pv 0) pa_nil))
      (pe_one (pe_chain op_le op_le (pv 1) (pv 0) (pv 2))))), ?_⟩
    refine ⟨_, rfl, v, d, rfl, hd, _, rfl, ?_⟩
    rw [isInt_eq]
    cases hd with
    | int i =>
      refine iteT ⟨_, rfl, _, rfl, _, _, rfl, rfl, _, rfl, ?_⟩
      have q' : Q (.bl (decide (lo ≤ i) && decide (i ≤ hi))) H := q
      cases e : decide (lo ≤ i) with
      | true =>
        rw [e] at q'
        exact iteT ⟨_, rfl, _, _, rfl, rfl, q'⟩
      | false =>
        rw [e] at q'
        exact iteF q'
    | _ => exact iteF q
theorem sc_is_name : FnScope ["value", "sign"] ["value"] (defScope s_is_name) := ⟨rfl, rfl, rfl, by decide +kernel, rfl, by decide +kernel, by decide +kernel⟩
theorem ok_is_name (F : FnP K "is_name" s_is_name f fd) (B : Blt mg) : FnOk P w K mg base CX0 1 f fd ["value"] (spName K) := by
  obtain ⟨tl, gl⟩ := B.let_
  obtain ⟨tm, gm⟩ := B.mxl
  refine F.ok sc_is_name (fun vs H Q E h => ?_) (fun cdv A outer s H vs Q E hr h => ?_)
  · obtain ⟨v, d, rfl, _⟩ := h
    rfl
  · obtain ⟨v, d, rfl, hd, q⟩ := h
    refine ⟨_, pss_cons (ps_if (PW.pt (pw_or (pt_not (pt_val (pe_callB call_isD (by rfl) B.isi boot_isinstance (pa_cons (pv 0) (pa_cons (pe_bltn (v := .ty "str") (by rfl) B.str (by decide +kernel) rfl) pa_nil)))))
        (pw_or1 (pt_not (pt_chain op_le op_le pe_int (pe_callB call_len_str (by rfl) B.len PySem.boot_len (pa_cons (pv 0) pa_nil)) (pe_glob (v := .int 8) rfl gm ⟨_, rfl⟩))))))
        (pss_one (ps_ret pe_bl)) pss_nil)
      (pss_one (ps_ret (pe_callB (cr_all rfl) (by rfl) B.all boot_all (pa_cons (pe_lc (own := [("sign", 1)]) (g := gName 1) (tt := tYes) rfl sc_is_name.nd (pi_str (pv 0)) (blkOk_by (N := ["value", "sign"]) (sc := defScope s_is_name) (by decide +kernel))
        (fun _ _ _ _ _ => pg_name (i := 1) sc_is_name.nd rfl (Or.inl rfl)) (fun _ _ _ _ _ => pts_nil)
        (fun _ _ _ _ _ => pe_cmpR op_inS (pv 1) (pe_glob (v := .str "abcdefghijklmnopqrstuvwxyz") rfl gl ⟨_, rfl⟩) rfl)) pa_nil)))), ?_⟩
    refine ⟨_, rfl, v, d, "str", rfl, hd, tok_str, _, rfl, ?_⟩
    cases hd with
    | str x hx =>
      refine iteF ⟨_, rfl, x, rfl, hx, _, _, rfl, rfl, _, rfl, ?_⟩
      have q' : ∀ H', Same H H' → Q (.bl (decide (1 ≤ x.length) && (decide (x.length ≤ 8) && x.cps.toList.all isLow))) H' := q
      by_cases h1 : 1 ≤ x.length
      · rw [decide_eq_true h1] at q'
        refine iteY (by omega) ⟨_, _, rfl, rfl, _, rfl, ?_⟩
        by_cases h2 : x.length ≤ 8
        · rw [decide_eq_true h2] at q'
          refine iteNY (by omega) ?_
          refine ⟨_, rfl, x, rfl, fun D hD => ?_⟩
          refine lc_map walk_str (x.cps.toList.map fun c => V.bl (isLow c)) (by simp) hx (fun _ => trivial) (fun _ => rfl) (fun i y acc Q' hi hy k => ?_) ?_
          · obtain ⟨c, hc, rfl⟩ := hy
            refine ⟨_, rfl, c, _, rfl, rfl, k _ ?_⟩
            rw [List.getElem?_map]
            have : x.cps.toList[i]? = some c := by simpa using hc
            rw [this]
            rfl
          · refine ⟨D, x.cps.toList.map isLow, rfl, SqL.of (by rw [upd_same, List.map_map]; rfl), ?_⟩
            have z := q' (upd H D (.lst (x.cps.toList.map fun c => V.bl (isLow c)))) fun b o e => by rw [upd_ne (ne_of_none e hD)]; exact e
            have e : (x.cps.toList.map isLow).all id = x.cps.toList.all isLow := by rw [List.all_map]; rfl
            rw [e]
            exact z
        · rw [decide_eq_false h2] at q'
          exact iteNN (by omega) (q' H (Same.refl H))
      · rw [decide_eq_false h1] at q'
        exact iteN (by omega) ⟨_, rfl, q' H (Same.refl H)⟩
    | _ => exact iteT (q H (Same.refl H))
theorem Same.new {H : Hp} {p : Addr} {o : HO} (h : H p = none) : Same H (upd H p o) := fun b u e => by rw [upd_ne (ne_of_none e h)]; exact e
theorem sc_is_ending : FnScope ["value", "word", "delay"] ["value"] (defScope s_is_ending) := ⟨rfl, rfl, rfl, by decide +kernel, rfl, by decide +kernel, by decide +kernel⟩
theorem ok_is_ending (F : FnP K "is_ending" s_is_ending f fd) {g' : Addr} {gd' : FuncData} (G' : FnP K "is_integer" s_is_integer g' gd') (gg' : mg "is_integer" = some (.ref g')) (G : FnP K "is_between" s_is_between g gd) (gg : mg "is_between" = some (.ref g)) (B : Blt mg) : FnOk P w K mg base CX0 3 f fd ["value"] (spEnding K) := by
  obtain ⟨t1, g1⟩ := B.go
  obtain ⟨t2, g2⟩ := B.stop
  obtain ⟨t3, g3⟩ := B.dead
  obtain ⟨t4, g4⟩ := B.mxd
  have b : Binds K gd ["value", "low", "high"] [] := G.bindsN fun _ _ _ _ _ _ us hl => match us, hl with | [_, _, _], _ => rfl
  refine F.ok sc_is_ending (fun vs H Q E h => ?_) (fun cdv A outer s H vs Q E hr h => ?_)
  · obtain ⟨v, d, rfl, _⟩ := h
    rfl
  · obtain ⟨v, d, rfl, hd, q⟩ := h
    refine ⟨_, pss_one (ps_match (pv 0) (pm_seq1 (i := 1) rfl sc_is_ending.nd rfl rfl
        (pss_one (ps_ret (pe_and (pe_callB call_isD (by rfl) B.isi boot_isinstance (pa_cons (pv 0) (pa_cons (pe_bltn (v := .ty "tuple") (by rfl) B.tuple (by decide +kernel) rfl) pa_nil)))
          (pe_and (pe_callB call_isD (by rfl) B.isi boot_isinstance (pa_cons (pv 1) (pa_cons (pe_bltn (v := .ty "str") (by rfl) B.str (by decide +kernel) rfl) pa_nil)))
            (pe_one (pe_cmpR op_in_seq (pv 1) (pe_tup (pa_cons (pe_glob (v := .str "go") rfl g1 ⟨_, rfl⟩) (pa_cons (pe_glob (v := .str "deadline") rfl g3 ⟨_, rfl⟩) pa_nil))) (by rfl)))))))
      (pm_seq2 (i := 1) (j := 2) rfl sc_is_ending.nd rfl rfl rfl rfl
        (pss_cons (ps_if (PW.pt (pw_or (pt_not (pt_val (pe_callB call_isD (by rfl) B.isi boot_isinstance (pa_cons (pv 0) (pa_cons (pe_bltn (v := .ty "tuple") (by rfl) B.tuple (by decide +kernel) rfl) pa_nil)))))
            (pw_or1 (pt_not (pt_val (pe_callB call_isD (by rfl) B.isi boot_isinstance (pa_cons (pv 1) (pa_cons (pe_bltn (v := .ty "str") (by rfl) B.str (by decide +kernel) rfl) pa_nil))))))))
            (pss_one (ps_ret pe_bl)) pss_nil)
          (pss_one (ps_ret (pe_and (pe_cmpR op_eq (pv 1) (pe_glob (v := .str "stop") rfl g2 ⟨_, rfl⟩) (nomark _))
            (pe_one (pe_call (ok_is_between G G' gg' B) hr rfl gg G.kp b .nil pass0 (pa_cons (pv 2) (pa_cons pe_int (pa_cons (pe_glob (v := .int 20) rfl g4 ⟨_, rfl⟩) pa_nil)))))))))
      (pm_any (pss_one (ps_ret pe_bl)))))), ?_⟩
    refine ⟨_, rfl, d, hd, ?_, ?_⟩
    · intro a xs ds ev hs ha hl y ey
      subst ey
      cases ha with
      | @cons _ _ d1 _ hy hn =>
      cases hn
      refine ⟨_, rfl, v, d, "tuple", rfl, hd, tok_tuple, _, rfl, ?_⟩
      rw [isA_tuple]
      rcases hs with ⟨rfl, hs⟩ | ⟨rfl, hs⟩
      · refine iteT ⟨_, rfl, y, d1, "str", rfl, hy, tok_str, _, rfl, ?_⟩
        rw [isA_str]
        cases hy with
        | str x hx =>
          refine iteT ⟨_, rfl, (by show 2 ≤ sizeLine; decide), fun p hp => ⟨p, _, rfl, .inr (SqT.of upd_same), rfl, rfl, ?_⟩⟩
          have z := q _ (Same.new (o := .tup [.str "go", .str "deadline"]) hp)
          have e : isEnding (.tuple [.str x]) = inV (.str x) [.str "go", .str "deadline"] := by
            show (x == "go" || x == "deadline") = ((("go" : Str) == x) || ((("deadline" : Str) == x) || false))
            rw [Bool.or_false, Bool.beq_comm (a := x), Bool.beq_comm (a := x)]
          rw [e] at z
          exact z
        | _ => exact iteF (q H (Same.refl H))
      · exact iteF (q H (Same.refl H))
    · intro hne
      refine ⟨d, hd, ?_, ?_⟩
      · intro a xs ds ev hs ha hl y1 y2 ey
        subst ey
        cases ha with
        | @cons _ _ d1 _ hy hn =>
        cases hn with
        | @cons _ _ d2 _ hy2 hn =>
        cases hn
        refine ⟨_, rfl, v, d, "tuple", rfl, hd, tok_tuple, _, rfl, ?_⟩
        rw [isA_tuple]
        rcases hs with ⟨rfl, hs⟩ | ⟨rfl, hs⟩
        · refine iteF ⟨_, rfl, y1, d1, "str", rfl, hy, tok_str, _, rfl, ?_⟩
          rw [isA_str]
          cases hy with
          | str x hx =>
            refine iteF ⟨_, rfl, rfl, _, rfl, ?_⟩
            have z := q H (Same.refl H)
            have z' : Q (.bl (x == "stop" && isBetw d2 0 20)) H := z
            by_cases hx2 : x = "stop"
            · subst hx2
              refine iteY rfl ⟨_, rfl, y2, d2, 0, 20, rfl, hy2, ?_⟩
              exact z'
            · have e : (x == ("stop" : Str)) = false := by simpa using hx2
              rw [e] at z'
              exact iteN (fun z => hx2 (V.str.inj z)) z'
          | _ => exact iteT (q H (Same.refl H))
        · exact iteT (q H (Same.refl H))
      · intro hne2
        have z := q H (Same.refl H)
        have e : isEnding d = false := by
          unfold isEnding
          split
          · exact absurd rfl hne
          · exact absurd rfl hne2
          · rfl
        rw [e] at z
        exact z
theorem Dq.isN {K : PySem.W.Frag} {H : Hp} {v : V} {d : PyData} (h : Dq K H v d) : (!decide (v = .non)) = notN d := by
  cases h <;> rfl
theorem sc_are_pauses : FnScope ["value", "tries", "one"] ["value", "tries"] (defScope s_are_pauses) := ⟨rfl, rfl, rfl, by decide +kernel, rfl, by decide +kernel, by decide +kernel⟩
theorem ok_are_pauses (F : FnP K "are_pauses" s_are_pauses f fd) {g' : Addr} {gd' : FuncData} (G' : FnP K "is_integer" s_is_integer g' gd') (gg' : mg "is_integer" = some (.ref g')) (G : FnP K "is_between" s_is_between g gd) (gg : mg "is_between" = some (.ref g)) (B : Blt mg) : FnOk P w K mg base CX0 3 f fd ["value", "tries"] (spPauses K) := by
  obtain ⟨t1, g1⟩ := B.mxp
  have b : Binds K gd ["value", "low", "high"] [] := G.bindsN fun _ _ _ _ _ _ us hl => match us, hl with | [_, _, _], _ => rfl
  refine F.ok sc_are_pauses (fun vs H Q E h => ?_) (fun cdv A outer s H vs Q E hr h => ?_)
  · obtain ⟨v, d, n, rfl, _⟩ := h
    rfl
  · obtain ⟨v, d, n, rfl, hn100, hd, q⟩ := h
    refine ⟨_, pss_cons (ps_if (PW.pt (pw_or (pt_not (pt_val (pe_callB call_isD (by rfl) B.isi boot_isinstance (pa_cons (pv 0) (pa_cons (pe_bltn (v := .ty "tuple") (by rfl) B.tuple (by decide +kernel) rfl) pa_nil)))))
        (pw_or1 (pt_cmpR op_ne (pe_callB call_len (by rfl) B.len PySem.boot_len (pa_cons (pv 0) pa_nil)) (pe_op op_sub (pv 1) pe_int) (nomark _)))))
        (pss_one (ps_ret pe_bl)) pss_nil)
      (pss_one (ps_ret (pe_callB (cr_all rfl) (by rfl) B.all boot_all (pa_cons (pe_lc (own := [("one", 2)]) (g := gName 2) (tt := tYes) rfl sc_are_pauses.nd (pi_tup (pv 0)) (blkOk_by (N := ["value", "tries", "one"]) (sc := defScope s_are_pauses) (by decide +kernel))
        (fun _ _ _ _ _ => pg_name (i := 2) sc_are_pauses.nd rfl (Or.inl rfl)) (fun _ _ _ _ _ => pts_nil)
        (fun _ _ _ _ _ => pe_call (ok_is_between G G' gg' B) hr rfl gg G.kp b .nil pass0 (pa_cons (pv 2) (pa_cons pe_int (pa_cons (pe_glob (v := .int 8) rfl g1 ⟨_, rfl⟩) pa_nil))))) pa_nil)))), ?_⟩
    refine ⟨_, rfl, v, d, "tuple", rfl, hd, tok_tuple, _, rfl, ?_⟩
    rw [isA_tuple]
    cases hd with
    | @tup a xs ds hs ha =>
      have el := ha.len
      have q' : ∀ H', Same H H' → Q (.bl (decide ((ds.length : Int) = n - 1) && ds.all fun e => isBetw e 0 8)) H' := q
      refine iteF ⟨_, rfl, _, xs.length, rfl, .inr ⟨_, hs, rfl⟩, _, rfl, _, _, rfl, rfl, rfl, _, rfl, ?_⟩
      by_cases hn : (ds.length : Int) = n - 1
      · rw [decide_eq_true hn] at q'
        refine iteNY (congrArg V.int (by rw [el]; exact hn)) ?_
        refine ⟨_, rfl, a, rfl, ⟨_, hs⟩, fun D hD => ?_⟩
        have hlen : xs.length ≤ sizeLine := Nat.le_trans (by omega : xs.length ≤ 100) (by decide)
        refine lc_map walk_tup (ds.map fun e => V.bl (isBetw e 0 8)) (by rw [List.length_map, el]) hlen (fun acc => SqT.upT (Same.new hD) hs) (fun _ => rfl) (fun i y acc Q' hi hy k => ?_) ?_
        · obtain ⟨e, he, hye⟩ := ha.at hy
          refine ⟨_, rfl, y, e, 0, 8, rfl, hye.up (Same.new hD), k _ ?_⟩
          rw [List.getElem?_map, he]
          rfl
        · refine ⟨D, ds.map fun e => isBetw e 0 8, rfl, SqL.of (by rw [upd_same, List.map_map]; rfl), ?_⟩
          have e : (ds.map fun e => isBetw e 0 8).all id = ds.all fun e => isBetw e 0 8 := by rw [List.all_map]; rfl
          rw [e]
          exact q' _ (Same.new hD)
      · rw [decide_eq_false hn] at q'
        exact iteNN (fun z => hn (by rw [← el]; exact V.int.inj z)) (q' H (Same.refl H))
    | _ => exact iteT (q H (Same.refl H))
end
end K03
namespace K03
open PySem PySem.Spec PyProof.Rows L2
section
variable {P : Program} {w : World} {K : PySem.W.Frag} {mg : Str → Option Value} {base : Heap} {f g : Addr} {fd gd : FuncData} {CX : CXT}
theorem isBetw_int {d : PyData} {lo hi : Int} (h : isBetw d lo hi = true) : ∃ i, d = .int i ∧ lo ≤ i ∧ i ≤ hi := by
  cases d with
  | int i =>
    have z : (decide (lo ≤ i) && decide (i ≤ hi)) = true := h
    simp only [Bool.and_eq_true, decide_eq_true_eq] at z
    exact ⟨i, rfl, z.1, z.2⟩
  | _ => cases h
theorem dq_int {K : PySem.W.Frag} {H : Hp} {v : V} {i : Int} (h : Dq K H v (.int i)) : v = .int i := by cases h; rfl
theorem dq_isN {K : PySem.W.Frag} {H : Hp} {v : V} {d : PyData} (h : Dq K H v d) : (!decide (v = .non)) = notN d := by
  cases h <;> rfl
theorem sc_wrong_field : FnScope ["limit", "tries", "pauses", "early", "lossy", "ending"] ["limit", "tries", "pauses", "early", "lossy", "ending"] (defScope s_wrong_field) := ⟨rfl, rfl, rfl, by decide +kernel, rfl, by decide +kernel, by decide +kernel⟩
theorem ok_wrong_field (F : FnP K "wrong_field" s_wrong_field f fd) {g1 g2 g3 g4 : Addr} {e1 e2 e3 e4 : FuncData} (G1 : FnP K "is_integer" s_is_integer g1 e1) (m1 : mg "is_integer" = some (.ref g1)) (G2 : FnP K "is_between" s_is_between g2 e2) (m2 : mg "is_between" = some (.ref g2))
    (G3 : FnP K "are_pauses" s_are_pauses g3 e3) (m3 : mg "are_pauses" = some (.ref g3)) (G4 : FnP K "is_ending" s_is_ending g4 e4) (m4 : mg "is_ending" = some (.ref g4)) (B : Blt mg) : FnOk P w K mg base CX0 4 f fd ["limit", "tries", "pauses", "early", "lossy", "ending"] (spWrong K) := by
  obtain ⟨t1, c1⟩ := B.mxm
  obtain ⟨t2, c2⟩ := B.mxt
  have b2 : Binds K e2 ["value", "low", "high"] [] := G2.bindsN fun _ _ _ _ _ _ us hl => match us, hl with | [_, _, _], _ => rfl
  have b3 : Binds K e3 ["value", "tries"] [] := G3.bindsN fun _ _ _ _ _ _ us hl => match us, hl with | [_, _], _ => rfl
  have b4 : Binds K e4 ["value"] [] := G4.bindsN fun _ _ _ _ _ _ us hl => match us, hl with | [_], _ => rfl
  have F2 : FnOk P w K mg base CX0 2 g2 e2 ["value", "low", "high"] (spBetw K) := ok_is_between G2 G1 m1 B
  have F3 : FnOk P w K mg base CX0 3 g3 e3 ["value", "tries"] (spPauses K) := ok_are_pauses G3 G1 m1 G2 m2 B
  have F4 : FnOk P w K mg base CX0 3 g4 e4 ["value"] (spEnding K) := ok_is_ending G4 G1 m1 G2 m2 B
  refine F.ok sc_wrong_field (fun vs H Q E h => ?_) (fun cdv A outer s H vs Q E hr h => ?_)
  · obtain ⟨_, _, _, _, _, _, _, _, _, _, _, _, rfl, _⟩ := h
    rfl
  · obtain ⟨v0, v1, v2, v3, v4, v5, d0, d1, d2, d3, d4, d5, rfl, h0, h1, h2, h3, h4, h5, q⟩ := h
    have hr2 := hr.mono (by decide : 2 ≤ 3)
    refine ⟨_, (pss_cons (ps_if (pt_not (pt_val (pe_call F2 hr2 rfl m2 G2.kp b2 .nil pass0 (pa_cons (pv 0) (pa_cons pe_int (pa_cons (pe_glob (v := .int 20) rfl c1 ⟨_, rfl⟩) pa_nil)))))) (pss_one (ps_ret pe_str)) pss_nil)
      (pss_cons (ps_if (pt_not (pt_val (pe_call F2 hr2 rfl m2 G2.kp b2 .nil pass0 (pa_cons (pv 1) (pa_cons pe_int (pa_cons (pe_glob (v := .int 3) rfl c2 ⟨_, rfl⟩) pa_nil)))))) (pss_one (ps_ret pe_str)) pss_nil)
      (pss_cons (ps_if (PW.pt (pw_and (pt_cmp (pc_notN (pv 2))) (pw_and1 (PW.pt (pw_or (pt_cmp (pc_notN (pv 3))) (pw_or1 (pt_not (pt_val (pe_call F3 hr rfl m3 G3.kp b3 .nil pass0 (pa_cons (pv 2) (pa_cons (pv 1) pa_nil))))))))))) (pss_one (ps_ret pe_str)) pss_nil)
      (pss_cons (ps_if (PW.pt (pw_and (pt_cmp (pc_notN (pv 3))) (pw_and1 (PW.pt (pw_or (pt_cmpR op_lt (pv 1) pe_int (nomark _)) (pw_or1 (pt_not (pt_val (pe_call F2 hr2 rfl m2 G2.kp b2 .nil pass0 (pa_cons (pv 3) (pa_cons pe_int (pa_cons (pe_glob (v := .int 20) rfl c1 ⟨_, rfl⟩) pa_nil)))))))))))) (pss_one (ps_ret pe_str)) pss_nil)
      (pss_cons (ps_if (pt_not (pt_val (pe_callB call_isD (by rfl) B.isi (by decide +kernel) (pa_cons (pv 4) (pa_cons (pe_bltn (v := .ty "bool") (by rfl) B.bool (by decide +kernel) rfl) pa_nil))))) (pss_one (ps_ret pe_str)) pss_nil)
      (pss_one (ps_ret (pe_ifExp (pt_val (pe_call F4 hr rfl m4 G4.kp b4 .nil pass0 (pa_cons (pv 5) pa_nil))) pe_non pe_str)))))))), ?_⟩
    unfold wrongField at q
    refine ⟨_, rfl, v0, d0, 1, 20, rfl, h0, _, rfl, ?_⟩
    cases e0 : isBetw d0 1 20 with
    | false =>
      rw [e0] at q
      exact iteT (q H (Same.refl H))
    | true =>
    rw [e0] at q
    refine iteF ⟨_, rfl, v1, d1, 1, 3, rfl, h1, _, rfl, ?_⟩
    cases e1 : isBetw d1 1 3 with
    | false =>
      rw [e1] at q
      exact iteT (q H (Same.refl H))
    | true =>
    rw [e1] at q
    obtain ⟨n, rfl, hn1, hn2⟩ := isBetw_int e1
    obtain rfl := dq_int h1
    replace q : ∀ H', Same H H' → Q (oStr (cond (notN d2 && (notN d3 || !arePauses d2 n)) (some "pauses") (cond (notN d3 && (decide (n < 2) || !isBetw d3 1 20)) (some "early") (cond (isBoolD d4) (cond (isEnding d5) none (some "ending")) (some "lossy"))))) H' := q
    refine iteF ⟨_, rfl, _, rfl, ?_⟩
    -- the last three questions, from any heap above
    have last : ∀ H1, Same H H1 → (∀ H', Same H H' → Q (oStr (cond (isBoolD d4) (cond (isEnding d5) none (some "ending")) (some "lossy"))) H') →
        tSeq (tIfS (tNot (tB (tCB (rIsD K) (tCons (tVar 4) (tCons (tC (.ty "bool")) tNil))))) (tRet (tC (.str "lossy"))) tNext)
          (tRet (tIf (tB (tCall (spEnding K) [] E0 (tCons (tVar 5) tNil))) (tC .non) (tC (.str "ending")))) { nx := fun _ H' => Q .non H', rt := Q } (start ["limit", "tries", "pauses", "early", "lossy", "ending"] [v0, .int n, v2, v3, v4, v5]) H1 := by
      intro H1 s1 q
      refine ⟨_, rfl, v4, d4, "bool", rfl, h4.up s1, tok_bool, _, rfl, ?_⟩
      rw [isA_bool]
      cases e4 : isBoolD d4 with
      | false =>
        rw [e4] at q
        exact iteT (q H1 s1)
      | true =>
      rw [e4] at q
      refine iteF ⟨_, rfl, v5, d5, rfl, h5.up s1, fun H2 s2 => ⟨_, rfl, ?_⟩⟩
      have z := q H2 (s1.trans s2)
      cases e5 : isEnding d5 with
      | true =>
        rw [e5] at z
        exact iteT z
      | false =>
        rw [e5] at z
        exact iteF z
    rw [dq_isN h2]
    cases e2 : notN d2 with
    | true =>
      refine iteT ⟨_, rfl, _, rfl, ?_⟩
      rw [dq_isN h3]
      cases e3 : notN d3 with
      | true =>
        rw [e2, e3] at q
        exact iteT (q H (Same.refl H))
      | false =>
        refine iteF ⟨_, rfl, _, rfl, v2, d2, n, rfl, by omega, h2, fun H1 s1 => ⟨_, rfl, ?_⟩⟩
        rw [e2, e3] at q
        cases ep : arePauses d2 n with
        | false =>
          rw [ep] at q
          exact iteT (q H1 s1)
        | true =>
          rw [ep] at q
          refine iteF ⟨_, rfl, _, rfl, ?_⟩
          rw [dq_isN h3, e3]
          exact iteF (last H1 s1 q)
    | false =>
      rw [e2] at q
      refine iteF ⟨_, rfl, _, rfl, ?_⟩
      rw [dq_isN h3]
      cases e3 : notN d3 with
      | false =>
        rw [e3] at q
        exact iteF (last H (Same.refl H) q)
      | true =>
        rw [e3] at q
        refine iteT ⟨_, rfl, _, _, rfl, rfl, _, rfl, ?_⟩
        by_cases hn : n < 2
        · rw [decide_eq_true hn] at q
          exact iteY hn (q H (Same.refl H))
        · rw [decide_eq_false hn] at q
          refine iteN hn ⟨_, rfl, v3, d3, 1, 20, rfl, h3, _, rfl, ?_⟩
          cases eb : isBetw d3 1 20 with
          | false =>
            rw [eb] at q
            exact iteT (q H (Same.refl H))
          | true =>
            rw [eb] at q
            exact iteF (last H (Same.refl H) q)
end
end K03
namespace K03
open PySem PySem.Spec PyProof.Rows L2
/-- Policy.__init__: the two errors, or an instance -/
def spPolI (K : PySem.W.Frag) (C CN CP : Addr) : Sp := fun vs H Q E => ∃ (p dx : Addr) (vn v0 v1 v2 v3 v4 v5 : V) (dn d0 d1 d2 d3 d4 d5 : PyData), vs = [.ref p, vn, v0, v1, v2, v3, v4, v5] ∧ H p = some (.ins C dx []) ∧
  Dq K H vn dn ∧ Dq K H v0 d0 ∧ Dq K H v1 d1 ∧ Dq K H v2 d2 ∧ Dq K H v3 d3 ∧ Dq K H v4 d4 ∧ Dq K H v5 d5 ∧
  (isName dn = false → ∀ H' d, Same H H' → H' d = none → E (.ref CN) (some d) (upd H' d (.xd [("value", vn)]))) ∧
  (isName dn = true → ∀ wf, wrongField d0 d1 d2 d3 d4 d5 = some wf → ∀ H' d, Same H H' → H' d = none → E (.ref CP) (some d) (upd H' d (.xd [("field", .str wf)]))) ∧
  (isName dn = true → wrongField d0 d1 d2 d3 d4 d5 = none → (∃ x xs, d2 = .tuple (x :: xs)) ∧ ∀ H', (∀ b o, b ≠ p → H b = some o → H' b = some o) → Q .non H')
structure PolC (K : PySem.W.Frag) (C : Addr) : Prop where
  cl : Cls K C
  n_name : NoAttr K C "own_name"
  n_limit : NoAttr K C "own_limit"
  n_tries : NoAttr K C "own_tries"
  n_pauses : NoAttr K C "own_pauses"
  n_early : NoAttr K C "own_early"
  n_lossy : NoAttr K C "own_lossy"
  n_ending : NoAttr K C "own_ending"
section
variable {P : Program} {w : World} {K : PySem.W.Frag} {mg : Str → Option Value} {base : Heap} {f g : Addr} {fd gd : FuncData} {CX : CXT}
abbrev FnPol (K : PySem.W.Frag) (f : Addr) (fd : FuncData) (kws : List (Str × V)) : Prop := FunD K "__init__" "Policy.__init__" (defArgs s_Policy_init) (defBody s_Policy_init) (defScope s_Policy_init) [] kws f fd
theorem pf {f : Str} {v : V} {fs : List (Str × V)} {n : Nat} (h : fs.length ≤ n) : (putF f v fs).length ≤ n + 1 := Nat.le_trans (length_putF _ _ _) (Nat.succ_le_succ h)
theorem sqT_upd {K : PySem.W.Frag} {H : Hp} {a p C dx : Addr} {xs : List V} {fs : List (Str × V)} {o : HO} (h : SqT K H a xs) (hp : H p = some (.ins C dx fs)) : SqT K (upd H p o) a xs := by
  rcases h with (h | ⟨ob, h⟩) | h
  · exact .inl (.inl (by rw [upd_ne (ne_of h hp (fun z => nomatch z))]; exact h))
  · exact .inl (.inr ⟨ob, by rw [upd_ne (ne_of h hp (fun z => nomatch z))]; exact h⟩)
  · exact .inr h
theorem sc_Policy_init : FnScope ["self", "name", "limit", "tries", "pauses", "early", "lossy", "ending", "wrong"] ["self", "name", "limit", "tries", "pauses", "early", "lossy", "ending"] (defScope s_Policy_init) := ⟨rfl, rfl, rfl, by decide +kernel, rfl, by decide +kernel, by decide +kernel⟩
theorem ok_Policy_init {kws : List (Str × V)} (F : FnPol K f fd kws) {C CN fN CP fP : Addr} (TN : PySem.MCX.XTxt P K mg "InvalidName" "value" CN fN) (TP : PySem.MCX.XTxt P K mg "InvalidPolicy" "field" CP fP) (TC : PolC K C)
    {g5 g6 : Addr} {e5 e6 : FuncData} (F5 : FnOk P w K mg base CX0 1 g5 e5 ["value"] (spName K)) (m5 : mg "is_name" = some (.ref g5)) (G5 : FnP K "is_name" s_is_name g5 e5)
    (F6 : FnOk P w K mg base CX0 4 g6 e6 ["limit", "tries", "pauses", "early", "lossy", "ending"] (spWrong K)) (m6 : mg "wrong_field" = some (.ref g6)) (G6 : FnP K "wrong_field" s_wrong_field g6 e6) :
    FnOk P w K mg base (L2.CX P w) 5 f fd ["self", "name", "limit", "tries", "pauses", "early", "lossy", "ending"] (spPolI K C CN CP) := by
  have b5 : Binds K e5 ["value"] [] := G5.bindsN fun _ _ _ _ _ _ us hl => match us, hl with | [_], _ => rfl
  have b6 : Binds K e6 ["limit", "tries", "pauses", "early", "lossy", "ending"] [] := G6.bindsN fun _ _ _ _ _ _ us hl => match us, hl with | [_, _, _, _, _, _], _ => rfl
  refine F.ok sc_Policy_init (fun vs H Q E h => ?_) (fun cdv A outer s H vs Q E hr h => ?_)
  · obtain ⟨_, _, _, _, _, _, _, _, _, _, _, _, _, _, _, _, rfl, _⟩ := h
    rfl
  · obtain ⟨p, dx, vn, v0, v1, v2, v3, v4, v5, dn, d0, d1, d2, d3, d4, d5, rfl, hp, hn, h0, h1, h2, h3, h4, h5, qN, qP, qY⟩ := h
    have hr1 := hr.mono (by decide : 1 ≤ 4)
    refine ⟨_, (pss_cons (ps_if (pt_not (pt_val (pe_call F5 hr1 rfl m5 G5.kp b5 .nil pass0 (pa_cons (pv 1) pa_nil)))) (pss_one (ps_raiseX rfl TN hr (takes_of rfl rfl rfl rfl) (pa_cons (pv 1) pa_nil))) pss_nil)
      (pss_cons (ps_set (i := 8) sc_Policy_init.nd rfl (Or.inl rfl) (pe_call F6 hr rfl m6 G6.kp b6 .nil pass0 (pa_cons (pv 2) (pa_cons (pv 3) (pa_cons (pv 4) (pa_cons (pv 5) (pa_cons (pv 6) (pa_cons (pv 7) pa_nil))))))))
      (pss_cons (ps_if (pt_cmp (pc_notN (pv 8))) (pss_one (ps_raiseX rfl TP hr (takes_of rfl rfl rfl rfl) (pa_cons (pv 8) pa_nil))) pss_nil)
      (pss_cons (ps_fld (pv 0) (pv 1) rfl)
      (pss_cons (ps_fld (pv 0) (pv 2) rfl)
      (pss_cons (ps_fld (pv 0) (pv 3) rfl)
      (pss_cons (ps_fld (pv 0) (pe_ifExp (PW.pt (pw_and (pt_cmp (pc_isN (pv 4))) (pw_and1 (pt_cmp (pc_isN (pv 5)))))) (pe_op op_repT (pe_tup (pa_cons pe_int pa_nil)) (pe_op op_sub (pv 3) pe_int)) (pe_orT (pv 4) (pe_one (pe_tup pa_nil)))) rfl)
      (pss_cons (ps_fld (pv 0) (pv 5) rfl)
      (pss_cons (ps_fld (pv 0) (pv 6) rfl)
      (pss_one (ps_fld (pv 0) (pv 7) rfl))))))))))), ?_⟩
    refine ⟨_, rfl, vn, dn, rfl, hn, fun H1 s1 => ⟨_, rfl, ?_⟩⟩
    cases en : isName dn with
    | false => exact iteT ⟨_, rfl, _, rfl, fun d hd => qN en H1 d s1 hd⟩
    | true =>
    refine iteF ⟨_, rfl, _, rfl, _, rfl, _, rfl, _, rfl, _, rfl, v0, v1, v2, v3, v4, v5, d0, d1, d2, d3, d4, d5, rfl, h0.up s1, h1.up s1, h2.up s1, h3.up s1, h4.up s1, h5.up s1, fun H2 s2 => ?_⟩
    have s02 := s1.trans s2
    cases ew : wrongField d0 d1 d2 d3 d4 d5 with
    | some wf =>
      refine ⟨_, rfl, _, rfl, iteT ⟨_, rfl, _, rfl, fun d hd => qP en wf ew H2 d s02 hd⟩⟩
    | none =>
    obtain ⟨⟨x, xs, rfl⟩, fin⟩ := qY en ew
    refine ⟨_, rfl, _, rfl, iteF ?_⟩
    refine ⟨_, rfl, _, rfl, p, C, dx, _, rfl, (s02 p _ hp), TC.cl, TC.n_name, (Nat.lt_of_le_of_lt (Nat.le_refl 0) (by decide)), ?_⟩
    refine ⟨_, rfl, _, rfl, p, C, dx, _, rfl, upd_same, TC.cl, TC.n_limit, (Nat.lt_of_le_of_lt (pf (Nat.le_refl 0)) (by decide)), ?_⟩
    refine ⟨_, rfl, _, rfl, p, C, dx, _, rfl, upd_same, TC.cl, TC.n_tries, (Nat.lt_of_le_of_lt (pf (pf (Nat.le_refl 0))) (by decide)), ?_⟩
    cases h2 with
    | @tup a ys _ hs ha =>
    cases ha with
    | @cons y ys' _ _ hy hys =>
    have hsn := SqT.upT s02 hs
    have hpn := s02 p _ hp
    refine ⟨_, rfl, _, rfl, iteF ?_⟩
    refine ⟨_, rfl, true, .inr (.inl ⟨_, sqT_upd (sqT_upd (sqT_upd hsn hpn) upd_same) upd_same, rfl⟩), iteT ?_⟩
    refine ⟨_, rfl, p, C, dx, _, rfl, upd_same, TC.cl, TC.n_pauses, (Nat.lt_of_le_of_lt (pf (pf (pf (Nat.le_refl 0)))) (by decide)), ?_⟩
    refine ⟨_, rfl, _, rfl, p, C, dx, _, rfl, upd_same, TC.cl, TC.n_early, (Nat.lt_of_le_of_lt (pf (pf (pf (pf (Nat.le_refl 0))))) (by decide)), ?_⟩
    refine ⟨_, rfl, _, rfl, p, C, dx, _, rfl, upd_same, TC.cl, TC.n_lossy, (Nat.lt_of_le_of_lt (pf (pf (pf (pf (pf (Nat.le_refl 0)))))) (by decide)), ?_⟩
    refine ⟨_, rfl, _, rfl, p, C, dx, _, rfl, upd_same, TC.cl, TC.n_ending, (Nat.lt_of_le_of_lt (pf (pf (pf (pf (pf (pf (Nat.le_refl 0))))))) (by decide)), ?_⟩
    refine fin _ fun b o hb e => ?_
    rw [upd_ne hb, upd_ne hb, upd_ne hb, upd_ne hb, upd_ne hb, upd_ne hb, upd_ne hb]
    exact s02 b o e
end
end K03
namespace K03
open PySem PySem.Spec PyProof.Rows L2
abbrev s_law_told : Stmt := top 27
def toldT (dn : PyData) (wf : Option Str) : Str := cond (isName dn) (wf.getD "made") ("name " ++ dn.shown)
def spTold (K : PySem.W.Frag) : Sp := fun vs H Q _ => ∃ (r : Addr) (vn v0 v1 v2 v3 v4 v5 : V) (dn d0 d1 d2 d3 d4 d5 : PyData), vs = [vn, .ref r] ∧ SqL K H r [v0, v1, v2, v3, v4, v5] ∧
  Dq K H vn dn ∧ Dq K H v0 d0 ∧ Dq K H v1 d1 ∧ Dq K H v2 d2 ∧ Dq K H v3 d3 ∧ Dq K H v4 d4 ∧ Dq K H v5 d5 ∧
  (isName dn = false → dn.showable = true ∧ dn.hasDict = false ∧ dn.depth ≤ 60 ∧ dn.shown.length ≤ 1000) ∧
  (isName dn = true → wrongField d0 d1 d2 d3 d4 d5 = none → ∃ x xs, d2 = .tuple (x :: xs)) ∧ ∀ H', Same H H' → Q (.str (toldT dn (wrongField d0 d1 d2 d3 d4 d5))) H'
section
variable {P : Program} {w : World} {K : PySem.W.Frag} {mg : Str → Option Value} {base : Heap} {f g : Addr} {fd gd : FuncData} {CX : CXT}
theorem sc_law_told : FnScope ["_law_name", "_law_row", "e"] ["_law_name", "_law_row"] (defScope s_law_told) := ⟨rfl, rfl, rfl, by decide +kernel, rfl, by decide +kernel, by decide +kernel⟩
theorem ok_law_told (F : FnP K "_law_told" s_law_told f fd) {fI C CN fN CP fP : Addr} {eI : FuncData} {kws : List (Str × V)} (hkw : kws ≠ []) (GI : FnPol K fI eI kws) (MI : Mk K C fI) (mP : mg "Policy" = some (.ref C))
    (FI : FnOk P w K mg base (L2.CX P w) 5 fI eI ["self", "name", "limit", "tries", "pauses", "early", "lossy", "ending"] (spPolI K C CN CP)) (TN : PySem.MCX.XTxt P K mg "InvalidName" "value" CN fN) (TP : PySem.MCX.XTxt P K mg "InvalidPolicy" "field" CP fP)
    (hPN : PySem.W.exmOne K (.ref CP) (.ref CN) = some false) (mr : mg "repr" = none) : FnG P w K mg base CX0 8 f fd ["_law_name", "_law_row"] (spTold K) := by
  obtain ⟨mv, kb⟩ := FunD.kbinds0 (ps := ["self", "name", "limit", "tries", "pauses", "early", "lossy", "ending"]) GI 3 ["tries", "pauses", "early", "lossy", "ending"] [] (fun us _ ws => us ++ ws) hkw (fun q h => by cases h) (fun r1 _ r2 => r1.append r2)
    (fun D doc pm an cdv ct us mv ws l1 l2 l3 => match us, mv, ws, l1, l2, l3 with | [_, _, _], [], [_, _, _, _, _], _, _, _ => rfl)
  refine F.okG sc_law_told (fun vs H Q E h => ?_) (fun cdv A outer s H vs Q E hgd hr h => ?_)
  · obtain ⟨_, _, _, _, _, _, _, _, _, _, _, _, _, _, _, rfl, _⟩ := h
    rfl
  · obtain ⟨r, vn, v0, v1, v2, v3, v4, v5, dn, d0, d1, d2, d3, d4, d5, rfl, hrow, hn, h0, h1, h2, h3, h4, h5, qs, qt, q⟩ := h
    have hu := hr.units
    have hr6 := hr.mono (by decide : 6 ≤ 7)
    refine ⟨_, pss_one (ps_try_manyA (tb := fun W => tSeq (tDrop (tMakeKS C 2 (["tries", "pauses", "early", "lossy", "ending"] : List Str).length (spPolI K C CN CP) (fun vs zs => vs ++ zs) (WE W) (tCons (tVar 0) (tCons (tOp (rIxL K) (tVar 1) (tC (.int 0))) tNil)) (tCons (tOp (rIxL K) (tVar 1) (tC (.int 1))) (tCons (tOp (rIxL K) (tVar 1) (tC (.int 2))) (tCons (tOp (rIxL K) (tVar 1) (tC (.int 3))) (tCons (tOp (rIxL K) (tVar 1) (tC (.int 4))) (tCons (tOp (rIxL K) (tVar 1) (tC (.int 5))) tNil))))))) (tRet (tC (.str "made")))) rfl rfl sc_law_told.nd takes0
      (fun W pn xe tk _ => pss_cons (ps_expr (by exact pe_makeKS (E := WE W) MI FI hr6 rfl mP kb (fun σ => passAt tk σ) (pa_cons (pv 0) (pa_cons (pe_ix ix_list (pv 1) pe_int (fun _ _ => rfl)) pa_nil)) (pk_cons (pe_ix ix_list (pv 1) pe_int (fun _ _ => rfl)) (pk_cons (pe_ix ix_list (pv 1) pe_int (fun _ _ => rfl)) (pk_cons (pe_ix ix_list (pv 1) pe_int (fun _ _ => rfl)) (pk_cons (pe_ix ix_list (pv 1) pe_int (fun _ _ => rfl)) (pk_cons (pe_ix ix_list (pv 1) pe_int (fun _ _ => rfl)) pk_nil))))))) (pss_one (ps_ret pe_str)))
      (.cons (i := 2) ⟨rfl, by decide, .inl TN.gC⟩ rfl rfl (fun a oe cls d pn hz hf => pss_one (ps_ret (pe_op op_add_str pe_str (pe_callB (id := "repr") (r := rRepr K) (by exact call_repr hgd hu) (by rfl) mr (by decide +kernel) (pa_cons (pe_xf TN.xf TN.noF hz hf (pv 2)) pa_nil)))))
        (.cons (i := 2) ⟨rfl, by decide, .inl TP.gC⟩ rfl rfl (fun a oe cls d pn hz hf => pss_one (ps_ret (pe_xf TP.xf TP.noF hz hf (pv 2)))) .nil))), ?_⟩
    have s0 : ∀ {x dx : Addr}, H x = none → H dx = none → Same H (upd (upd H dx (.own x)) x (.ins C dx [])) := fun hx hdx b o e => by
      rw [upd_ne (ne_of_none e hx), upd_ne (ne_of_none e hdx)]
      exact e
    refine ⟨_, rfl, _, rfl, r, _, 0, v0, rfl, rfl, hrow, rfl, _, rfl, r, _, 1, v1, rfl, rfl, hrow, rfl, _, rfl, r, _, 2, v2, rfl, rfl, hrow, rfl, _, rfl, r, _, 3, v3, rfl, rfl, hrow, rfl, _, rfl, r, _, 4, v4, rfl, rfl, hrow, rfl, _, rfl, r, _, 5, v5, rfl, rfl, hrow, rfl, rfl, rfl, fun x dx hx hdx hne => ?_⟩
    have s1 := s0 hx hdx
    refine ⟨x, dx, vn, v0, v1, v2, v3, v4, v5, dn, d0, d1, d2, d3, d4, d5, rfl, upd_same, hn.up s1, h0.up s1, h1.up s1, h2.up s1, h3.up s1, h4.up s1, h5.up s1, fun en H1 d s2 hd => ?_, fun en wf ew H1 d s2 hd => ?_, fun en ew => ⟨qt en ew, fun H1 k => ⟨rfl, ?_⟩⟩⟩
    · have s3 := (s1.trans s2).trans (Same.new (o := .xd [("value", vn)]) hd)
      obtain ⟨c1, c2, c3, c4⟩ := qs en
      refine ⟨true, TN.te, fun _ a ha => ?_, fun z => nomatch z⟩
      refine ⟨_, rfl, rfl, rfl, d, _, vn, rfl, upd_same, rfl, vn, dn, rfl, (hn.up s3).dp c2, c1, c2, c3, Nat.le_trans c4 (by decide), _, _, rfl, rfl, ?_, ?_⟩
      · show (5 : Nat) + dn.shown.length ≤ sizeLine
        exact Nat.le_trans (by omega : 5 + dn.shown.length ≤ 2000) (by decide)
      · have z := q _ s3
        unfold toldT at z
        rw [en] at z
        exact z
    · have s3 := (s1.trans s2).trans (Same.new (o := .xd [("field", .str wf)]) hd)
      refine ⟨false, hPN, (fun z => nomatch z), fun _ => ⟨true, TP.te, fun _ a ha => ?_, fun z => nomatch z⟩⟩
      refine ⟨_, rfl, rfl, rfl, d, _, .str wf, rfl, upd_same, rfl, ?_⟩
      have z := q _ s3
      unfold toldT at z
      rw [en, ew] at z
      exact z
    · have z := q H1 fun b o e => k b o (ne_of_none e hx) (s1 b o e)
      unfold toldT at z
      rw [en, ew] at z
      exact z
end
end K03
namespace K03
open PySem PySem.Spec PyProof.Rows L2
abbrev s_law_pool : Stmt := top 24
abbrev s_law_draw : Stmt := top 25
abbrev s_law_choose : Stmt := top 26
/-! ### the law's draws: a pool is a list of two ints -/
def IsPool (H : Hp) (p : Addr) : Prop := ∃ c z : Int, H p = some (.lst [.int c, .int z]) ∧ 0 ≤ z ∧ z < 2147483647
abbrev poolO (c z : Int) : HO := .lst [.int c, .int z]
def spPool (K : PySem.W.Frag) : Sp := fun vs H Q _ => ∃ (a : Addr) (ns : List Int) (k : Int), vs = [.ref a, .int k] ∧ SqL K H a (ns.map V.int) ∧ ns.length ≤ 1000 ∧ 0 ≤ k ∧ k ≤ 100 ∧ ∀ p c z, H p = none → 0 ≤ z → z < 2147483647 → Q (.ref p) (upd H p (poolO c z))
def spDraw : Sp := fun vs H Q _ => ∃ (p : Addr) (m : Int), vs = [.ref p, .int m] ∧ IsPool H p ∧ 0 < m ∧ m < 1073741824 ∧ ∀ d c z, 0 ≤ d → d < m → 0 ≤ z → z < 2147483647 → Q (.int d) (upd H p (poolO c z))
def spChoose (K : PySem.W.Frag) : Sp := fun vs H Q _ => ∃ (p l : Addr) (xs : List V), vs = [.ref p, .ref l] ∧ IsPool H p ∧ SqL K H l xs ∧ (∀ o, SqL K (upd H p o) l xs) ∧ xs ≠ [] ∧ xs.length ≤ 1000 ∧
  ∀ x c z, x ∈ xs → 0 ≤ z → z < 2147483647 → Q x (upd H p (poolO c z))
section
variable {P : Program} {w : World} {K : PySem.W.Frag} {mg : Str → Option Value} {base : Heap} {f g : Addr} {fd gd : FuncData} {CX : CXT}
theorem emod_lt {a m : Int} (h : 0 < m) : 0 ≤ a % m ∧ a % m < m := ⟨Int.emod_nonneg _ (by omega), Int.emod_lt_of_pos _ h⟩
theorem sc_law_pool : FnScope ["_law_script", "_law_k", "_law_cell", "_law_seed"] ["_law_script", "_law_k"] (defScope s_law_pool) := ⟨rfl, rfl, rfl, by decide +kernel, rfl, by decide +kernel, by decide +kernel⟩
theorem ok_law_pool (F : FnP K "_law_pool" s_law_pool f fd) (mlen : mg "len" = none) (mint : mg "int" = none) : FnOk P w K mg base CX0 1 f fd ["_law_script", "_law_k"] (spPool K) := by
  refine F.ok sc_law_pool (fun vs H Q E h => ?_) (fun cdv A outer s H vs Q E hr h => ?_)
  · obtain ⟨_, _, _, rfl, _⟩ := h
    rfl
  · obtain ⟨a, ns, k, rfl, hS, hlen, hk0, hk1, q⟩ := h
    refine ⟨_, (pss_cons (ps_set (i := 2) sc_law_pool.nd rfl (Or.inl rfl) pe_int)
      (pss_cons (ps_if (pt_cmpR op_lt (pv 1) (pe_callB call_len (by rfl) mlen (by decide +kernel) (pa_cons (pv 0) pa_nil)) (nomark _)) (pss_one (ps_set (i := 2) sc_law_pool.nd rfl (Or.inl rfl) (pe_ix ix_list (pv 0) (pv 1) (fun _ _ => rfl)))) pss_nil)
      (pss_cons (ps_set (i := 3) sc_law_pool.nd rfl (Or.inl rfl) (pe_op op_mod (pe_op op_pow (pe_op op_add (pe_op op_add (pe_op op_mod (pe_callTy call_int1 (by rfl) mint (by decide +kernel) (pa_cons (pv 2) pa_nil)) pe_int) (pe_op op_mul (pe_op op_mul pe_int (pv 1)) (pv 1))) pe_int) pe_int) pe_int))
      (pss_cons (ps_if (pt_cmpR op_lt (pv 2) (pe_op op_pow pe_int pe_int) (nomark _)) (pss_one (ps_set (i := 2) sc_law_pool.nd rfl (Or.inl rfl) pe_int)) pss_nil)
      (pss_one (ps_ret (pe_lst (pa_cons (pv 2) (pa_cons (pv 3) pa_nil))))))))), ?_⟩
    have hkk : 0 ≤ 7919 * k ∧ 7919 * k ≤ 791900 := by omega
    have hk2 : 0 ≤ 7919 * k * k ∧ 7919 * k * k ≤ 79190000 := by
      refine ⟨Int.mul_nonneg hkk.1 hk0, ?_⟩
      have z : 7919 * k * k ≤ 791900 * 100 := Int.mul_le_mul hkk.2 hk1 hk0 (by decide)
      omega
    refine ⟨_, rfl, _, rfl, _, (ns.map V.int).length, rfl, .inl ⟨_, hS, rfl⟩, _, _, rfl, rfl, _, rfl, ?_⟩
    have hb : ∀ cell : Int, (cell % 2147483629 + 7919 * k * k + 31).natAbs < 2 ^ 64 := fun cell => by
      have z := @emod_lt cell 2147483629 (by decide)
      omega
    by_cases hk : k < ((ns.map V.int).length : Int)
    · refine iteY hk ?_
      obtain ⟨i, rfl⟩ := Int.eq_ofNat_of_zero_le hk0
      have hi : i < ns.length := by rw [List.length_map] at hk; omega
      refine ⟨_, rfl, _, rfl, a, _, _, .int ns[i], rfl, rfl, hS, atI_nat (by simp [hi]), ?_⟩
      refine ⟨_, rfl, .inl ⟨_, rfl, _, _, rfl, rfl, (by decide : (0 : Int) < 2147483629), _, rfl, _, _, rfl, rfl, .inl ⟨by decide, by decide⟩, _, rfl, _, _, rfl, rfl, .inl ⟨by omega, by omega⟩, _, _, rfl, rfl, _, _, rfl, rfl, _, _, rfl, rfl, ⟨by decide, by decide, hb _⟩, _, _, rfl, rfl, (by decide : (0 : Int) < 2147483647), ?_⟩⟩
      refine ⟨_, rfl, _, _, rfl, rfl, ⟨by decide, by decide, by decide⟩, _, _, rfl, rfl, _, rfl, ?_⟩
      refine iteB (fun _ => ?_) (fun _ => ?_)
      · exact ⟨_, rfl, _, rfl, (by show 2 ≤ sizeLine; decide), fun p hp => q p _ _ hp (emod_lt (by decide)).1 (emod_lt (by decide)).2⟩
      · exact ⟨_, rfl, _, rfl, (by show 2 ≤ sizeLine; decide), fun p hp => q p _ _ hp (emod_lt (by decide)).1 (emod_lt (by decide)).2⟩
    · refine iteN hk ?_
      refine ⟨_, rfl, .inl ⟨_, rfl, _, _, rfl, rfl, (by decide : (0 : Int) < 2147483629), _, rfl, _, _, rfl, rfl, .inl ⟨by decide, by decide⟩, _, rfl, _, _, rfl, rfl, .inl ⟨by omega, by omega⟩, _, _, rfl, rfl, _, _, rfl, rfl, _, _, rfl, rfl, ⟨by decide, by decide, hb _⟩, _, _, rfl, rfl, (by decide : (0 : Int) < 2147483647), ?_⟩⟩
      refine ⟨_, rfl, _, _, rfl, rfl, ⟨by decide, by decide, by decide⟩, _, _, rfl, rfl, _, rfl, ?_⟩
      refine iteB (fun _ => ?_) (fun _ => ?_)
      · exact ⟨_, rfl, _, rfl, (by show 2 ≤ sizeLine; decide), fun p hp => q p _ _ hp (emod_lt (by decide)).1 (emod_lt (by decide)).2⟩
      · exact ⟨_, rfl, _, rfl, (by show 2 ≤ sizeLine; decide), fun p hp => q p _ _ hp (emod_lt (by decide)).1 (emod_lt (by decide)).2⟩
theorem sc_law_draw : FnScope ["_law_pool_here", "_law_many", "_law_digit"] ["_law_pool_here", "_law_many"] (defScope s_law_draw) := ⟨rfl, rfl, rfl, by decide +kernel, rfl, by decide +kernel, by decide +kernel⟩
theorem ok_law_draw (F : FnP K "_law_draw" s_law_draw f fd) (mint : mg "int" = none) : FnOk P w K mg base CX0 1 f fd ["_law_pool_here", "_law_many"] spDraw := by
  refine F.ok sc_law_draw (fun vs H Q E h => ?_) (fun cdv A outer s H vs Q E hr h => ?_)
  · obtain ⟨_, _, rfl, _⟩ := h
    rfl
  · obtain ⟨p, m, rfl, ⟨c, z, hp, hz0, hz1⟩, hm0, hm1, q⟩ := h
    refine ⟨_, (pss_cons (ps_if (pt_cmpR op_gt (pe_ix ix_list (pv 0) pe_int (fun _ _ => rfl)) pe_int (nomark _)) (pss_cons (ps_set (i := 2) sc_law_draw.nd rfl (Or.inl rfl) (pe_op op_mod (pe_callTy call_int1 (by rfl) mint (by decide +kernel) (pa_cons (pe_ix ix_list (pv 0) pe_int (fun _ _ => rfl)) pa_nil)) (pv 1)))
      (pss_cons (ps_asg (pe_op op_fdiv (pe_ix ix_list (pv 0) pe_int (fun _ _ => rfl)) (pv 1)) (pg_sub (pv 0) pe_int set_list))
      (pss_one (ps_ret (pv 2))))) pss_nil)
      (pss_cons (ps_asg (pe_op op_mod (pe_callTy call_int1 (by rfl) mint (by decide +kernel) (pa_cons (pe_op op_add (pe_op op_mul (pe_ix ix_list (pv 0) pe_int (fun _ _ => rfl)) pe_int) pe_int) pa_nil)) pe_int) (pg_sub (pv 0) pe_int set_list))
      (pss_one (ps_ret (pe_op op_mod (pe_op op_fdiv (pe_op op_mod (pe_callTy call_int1 (by rfl) mint (by decide +kernel) (pa_cons (pe_op op_mul (pe_ix ix_list (pv 0) pe_int (fun _ _ => rfl)) (pe_ix ix_list (pv 0) pe_int (fun _ _ => rfl))) pa_nil)) pe_int) pe_int) (pv 1)))))), ?_⟩
    refine ⟨_, rfl, p, _, 0, _, rfl, rfl, SqL.of hp, rfl, _, _, rfl, rfl, _, rfl, ?_⟩
    by_cases h0 : 0 < c
    · refine iteY h0 ?_
      refine ⟨_, rfl, p, _, 0, _, rfl, rfl, SqL.of hp, rfl, .inl ⟨c, rfl, _, rfl, _, _, rfl, rfl, hm0, ?_⟩⟩
      refine ⟨_, rfl, p, _, 0, _, rfl, rfl, SqL.of hp, rfl, _, rfl, _, _, rfl, rfl, ⟨hm0, hm1⟩, _, rfl, p, _, 0, 0, rfl, rfl, hp, rfl, ?_⟩
      exact ⟨_, rfl, q (c % m) (c / m) z (emod_lt hm0).1 (emod_lt hm0).2 hz0 hz1⟩
    · refine iteN h0 ?_
      have hz := @emod_lt (z * 48271 + 11) 2147483647 (by decide)
      refine ⟨_, rfl, p, _, 1, _, rfl, rfl, SqL.of hp, rfl, _, _, rfl, rfl, .inl ⟨by omega, by omega⟩, _, _, rfl, rfl, .inl ⟨_, rfl, _, _, rfl, rfl, (by decide : (0 : Int) < 2147483647), _, rfl, p, _, 1, 1, rfl, rfl, hp, rfl, ?_⟩⟩
      refine ⟨_, rfl, p, _, 1, _, rfl, rfl, SqL.of upd_same, rfl, _, rfl, p, _, 1, _, rfl, rfl, SqL.of upd_same, rfl, _, _, rfl, rfl, .inl ⟨by omega, by omega⟩, .inl ⟨_, rfl, _, _, rfl, rfl, (by decide : (0 : Int) < 2147483629), _, _, rfl, rfl, ⟨by decide, by decide⟩, _, rfl, _, _, rfl, rfl, hm0, ?_⟩⟩
      exact q _ c ((z * 48271 + 11) % 2147483647) (emod_lt hm0).1 (emod_lt hm0).2 hz.1 hz.2
theorem sc_law_choose : FnScope ["_law_pool_here", "_law_items"] ["_law_pool_here", "_law_items"] (defScope s_law_choose) := ⟨rfl, rfl, rfl, by decide +kernel, rfl, by decide +kernel, by decide +kernel⟩
theorem ok_law_choose (F : FnP K "_law_choose" s_law_choose f fd) {gD : Addr} {eD : FuncData} (GD : FnP K "_law_draw" s_law_draw gD eD) (mD : mg "_law_draw" = some (.ref gD)) (mlen : mg "len" = none) (mint : mg "int" = none) : FnOk P w K mg base CX0 2 f fd ["_law_pool_here", "_law_items"] (spChoose K) := by
  have bD : Binds K eD ["_law_pool_here", "_law_many"] [] := GD.bindsN fun _ _ _ _ _ _ us hl => match us, hl with | [_, _], _ => rfl
  have FD : FnOk P w K mg base CX0 1 gD eD ["_law_pool_here", "_law_many"] spDraw := ok_law_draw GD mint
  refine F.ok sc_law_choose (fun vs H Q E h => ?_) (fun cdv A outer s H vs Q E hr h => ?_)
  · obtain ⟨_, _, _, rfl, _⟩ := h
    rfl
  · obtain ⟨p, l, xs, rfl, hp, hl, hl2, hne, hlen, q⟩ := h
    refine ⟨_, (pss_one (ps_ret (pe_ix ix_list (pv 1) (pe_call FD hr rfl mD GD.kp bD .nil pass0 (pa_cons (pv 0) (pa_cons (pe_callB call_len (by rfl) mlen (by decide +kernel) (pa_cons (pv 1) pa_nil)) pa_nil))) (fun _ _ => rfl)))), ?_⟩
    have hpos : 0 < xs.length := List.length_pos_iff.mpr hne
    refine ⟨_, rfl, _, rfl, _, rfl, _, xs.length, rfl, .inl ⟨_, hl, rfl⟩, p, xs.length, rfl, hp, by omega, by omega, fun d c z hd0 hd1 hz0 hz1 => ?_⟩
    obtain ⟨i, rfl⟩ := Int.eq_ofNat_of_zero_le hd0
    have hi : i < xs.length := by omega
    exact ⟨l, xs, _, xs[i], rfl, rfl, hl2 _, atI_nat (by simp [hi]), q _ c z (List.getElem_mem hi) hz0 hz1⟩
end
end K03
namespace K03
open PySem PySem.Spec PyProof.Rows L2
abbrev s_law_wrong : Stmt := top 28
def rowsA : List PyData := [.list [.int 0, .int 21, .none, .bool true, .str "5", .tuple [.int 5], .int (-1)], .list [.int 0, .int 4, .none, .bool false, .str "2", .list [.int 1]], .list [.tuple [.int 0], .list [.int 0, .int 0], .tuple [.int 0, .int 9], .tuple [.int 0, .int (-1)], .tuple [.int 0, .bool true]]]
def rowB : PyData := .list [.int 0, .int 21, .bool true, .str "1", .tuple [.int 1], .int (-3)]
def rowC : PyData := .list [.int 0, .int 1, .none, .str "yes"]
def endsA : List PyData := [.none, .str "go", .tuple [.str "go", .int 1], .tuple [.str "stop"], .tuple [.str "stop", .int 21], .tuple [.str "stop", .int (-1)], .tuple [.str "stop", .bool true], .list [.str "go"], .tuple [.str "deadline", .int 0], .tuple [.str "late"]]
def endsB : List PyData := [.tuple [], .tuple [.str "stop", .int 1, .int 1], .tuple [.list [.str "go"]], .tuple [.dict [], .int 2]]
def wrongRows : List PyData := rowsA ++ [rowB] ++ [rowC] ++ [.list (endsA ++ endsB)]
def spWrongRows (K : PySem.W.Frag) : Sp := fun vs H Q _ => vs = [] ∧ ∀ v H', Same H H' → Dq K (newOf H H') v (.list wrongRows) → Q v H'
section
variable {P : Program} {w : World} {K : PySem.W.Frag} {mg : Str → Option Value} {base : Heap} {f g : Addr} {fd gd : FuncData} {CX : CXT}
theorem DqA.app {K : PySem.W.Frag} {H : Hp} : ∀ {vs ws : List V} {ds es : List PyData}, DqA K H vs ds → DqA K H ws es → DqA K H (vs ++ ws) (ds ++ es)
  | _, _, _, _, .nil, h => h
  | _, _, _, _, .cons a r, h => .cons a (DqA.app r h)
theorem to_new {N H G : Hp} (s : Same N G) (h : ∀ b o, N b = some o → H b = none) : Same N (newOf H G) := fun b o e => newOf_of (h b o e) (s b o e)
theorem newOf_at {H H' : Hp} {r : Addr} {o : HO} (h : H r = some o) : newOf H H' r = none := by
  unfold newOf
  rw [if_neg (by rw [h]; exact nofun)]
theorem sc_law_wrong : FnScope ["_law_rows", "_law_ends"] [] (defScope s_law_wrong) := ⟨rfl, rfl, rfl, by decide +kernel, rfl, by decide +kernel, by decide +kernel⟩
theorem ok_law_wrong (F : FnP K "_law_wrong" s_law_wrong f fd) : FnOk P w K mg base CX0 1 f fd [] (spWrongRows K) := by
  refine F.ok sc_law_wrong (fun vs H Q E h => ?_) (fun cdv A outer s H vs Q E hr h => ?_)
  · obtain ⟨rfl, _⟩ := h
    rfl
  · obtain ⟨rfl, q⟩ := h
    refine ⟨_, (pss_cons (ps_set (i := 0) sc_law_wrong.nd rfl (Or.inl rfl) (pl_lstL (pla_cons (pl_lst (pla_cons pl_int (pla_cons pl_int (pla_cons pl_non (pla_cons pl_bl (pla_cons pl_str (pla_cons (pl_tup (pla_cons pl_int pla_nil)) (pla_cons pl_neg pla_nil)))))))) (pla_cons (pl_lst (pla_cons pl_int (pla_cons pl_int (pla_cons pl_non (pla_cons pl_bl (pla_cons pl_str (pla_cons (pl_lst (pla_cons pl_int pla_nil)) pla_nil))))))) (pla_cons (pl_lst (pla_cons (pl_tup (pla_cons pl_int pla_nil)) (pla_cons (pl_lst (pla_cons pl_int (pla_cons pl_int pla_nil))) (pla_cons (pl_tup (pla_cons pl_int (pla_cons pl_int pla_nil))) (pla_cons (pl_tup (pla_cons pl_int (pla_cons pl_neg pla_nil))) (pla_cons (pl_tup (pla_cons pl_int (pla_cons pl_bl pla_nil))) pla_nil)))))) pla_nil)))))
      (pss_cons (ps_expr (pe_bm PySem.F.plainAttrs_list PySem.F.slot_list_append PySem.F.type_list_append mt_append (pv 0) (pa_cons (pl_lst (pla_cons pl_int (pla_cons pl_int (pla_cons pl_bl (pla_cons pl_str (pla_cons (pl_tup (pla_cons pl_int pla_nil)) (pla_cons pl_neg pla_nil))))))) pa_nil))) (pss_cons (ps_expr (pe_bm PySem.F.plainAttrs_list PySem.F.slot_list_append PySem.F.type_list_append mt_append (pv 0) (pa_cons (pl_lst (pla_cons pl_int (pla_cons pl_int (pla_cons pl_non (pla_cons pl_str pla_nil))))) pa_nil)))
      (pss_cons (ps_set (i := 1) sc_law_wrong.nd rfl (Or.inl rfl) (pl_lstL (pla_cons pl_non (pla_cons pl_str (pla_cons (pl_tup (pla_cons pl_str (pla_cons pl_int pla_nil))) (pla_cons (pl_tup (pla_cons pl_str pla_nil)) (pla_cons (pl_tup (pla_cons pl_str (pla_cons pl_int pla_nil))) (pla_cons (pl_tup (pla_cons pl_str (pla_cons pl_neg pla_nil))) (pla_cons (pl_tup (pla_cons pl_str (pla_cons pl_bl pla_nil))) (pla_cons (pl_lst (pla_cons pl_str pla_nil)) (pla_cons (pl_tup (pla_cons pl_str (pla_cons pl_int pla_nil))) (pla_cons (pl_tup (pla_cons pl_str pla_nil)) pla_nil))))))))))))
      (pss_one (ps_ret (pe_op op_cat (pv 0) (pe_lst (pa_cons (pe_op op_cat (pv 1) (pl_lstL (pla_cons (pl_tup pla_nil) (pla_cons (pl_tup (pla_cons pl_str (pla_cons pl_int (pla_cons pl_int pla_nil)))) (pla_cons (pl_tup (pla_cons (pl_lst (pla_cons pl_str pla_nil)) pla_nil)) (pla_cons (pl_tup (pla_cons pl_dct (pla_cons pl_int pla_nil))) pla_nil)))))) pa_nil))))))))), ?_⟩
    intro r vs1 H1 hr0 s1 s1' hr1 d1
    have l1 : vs1.length = 3 := d1.len
    refine ⟨_, rfl, .inl ⟨rfl, _, SqL.of upd_same⟩, ?_⟩
    intro v2 H2 s2 d2
    refine ⟨r, _, _, rfl, rfl, s2 r _ upd_same, Nat.lt_of_lt_of_le (by omega : vs1.length < 100) (by decide), ?_⟩
    refine ⟨_, rfl, .inl ⟨rfl, _, SqL.of upd_same⟩, ?_⟩
    intro v3 H3 s3 d3
    refine ⟨r, _, _, rfl, rfl, s3 r _ upd_same, Nat.lt_of_lt_of_le (by simp; omega : (vs1 ++ [v2]).length < 100) (by decide), ?_⟩
    intro e vse H4 he0 s4 s4' he1 d4
    have l4 : vse.length = 10 := d4.len
    refine ⟨_, rfl, _, rfl, ?_⟩
    intro u vsu H5 hu0 s5 s5' hu1 d5
    have l5 : vsu.length = 4 := d5.len
    refine ⟨e, u, vse, vsu, rfl, rfl, s5' e _ upd_same, upd_same, Nat.le_trans (by omega : vse.length + vsu.length ≤ 100) (by decide), fun p hp => ?_⟩
    refine ⟨(by show 1 ≤ sizeLine; decide), fun l hl => ?_⟩
    have k1 : ∀ {N : Hp}, Same N (upd H5 u (.lst vsu)) → Same N (upd (upd (upd H5 u (.lst vsu)) p (.lst (vse ++ vsu))) l (.lst [.ref p])) := fun s => (s.trans (Same.new' hp)).trans (Same.new' hl)
    have hR : (upd (upd (upd H5 u (.lst vsu)) p (.lst (vse ++ vsu))) l (.lst [.ref p])) r = some (.lst (vs1 ++ [v2] ++ [v3])) := k1 s5' r _ (s4' r _ upd_same)
    refine ⟨r, l, _, _, rfl, rfl, hR, upd_same, Nat.le_trans (by simp; omega : (vs1 ++ [v2] ++ [v3]).length + [V.ref p].length ≤ 100) (by decide), fun w' hw => ?_⟩
    have k0 : ∀ {N : Hp}, Same N (upd H5 u (.lst vsu)) → Same N (upd (upd (upd (upd H5 u (.lst vsu)) p (.lst (vse ++ vsu))) l (.lst [.ref p])) w' (.lst (vs1 ++ [v2] ++ [v3] ++ [.ref p]))) := fun s => (k1 s).trans (Same.new' hw)
    have st5 : ∀ N, Same N H5 → Same N _ := fun N s => k0 (s.mut (s.free hu1))
    have st4 : ∀ N, Same N H4 → Same N _ := fun N s => k0 ((s.mut (s.free he1)).trans s5')
    have st3 : ∀ N, N r = none → Same N H3 → Same N _ := fun N n s => st4 N ((s.mut n).trans s4)
    have st2 : ∀ N, N r = none → Same N H2 → Same N _ := fun N n s => st3 N n ((s.mut n).trans s3)
    have st1 : ∀ N, N r = none → Same N (upd H1 r (.lst vs1)) → Same N _ := fun N n s => st2 N n (s.trans s2)
    have a1 : Same H H2 := s1'.trans s2
    have a2 := a1.mut (o := .lst (vs1 ++ [v2])) hr0
    have a3 : Same H H3 := a2.trans s3
    have a4 := a3.mut (o := .lst (vs1 ++ [v2] ++ [v3])) hr0
    have a5 := a4.trans s4'
    have hG := st1 H hr0 s1'
    refine q (.ref w') _ hG (.lst (SqL.of (newOf_of ((k1 (a5.trans s5')).free hw) upd_same)) (DqA.app (DqA.app (DqA.app ?_ (.cons ?_ .nil)) (.cons ?_ .nil)) (.cons (.lst (xs := vse ++ vsu) (SqL.of (newOf_of ?_ ?_)) (DqA.app ?_ ?_)) .nil)))
    · refine d1.up (to_new (st1 _ ?_ (newOf_in.trans (Same.new' hr1))) fun b o z => (newOf_some z).1)
      unfold newOf
      rw [if_pos hr0]
      exact hr1
    · exact d2.up (to_new (st2 _ (newOf_at upd_same) newOf_in) fun b o z => s1'.free (newOf_some z).1)
    · exact d3.up (to_new (st3 _ (newOf_at upd_same) newOf_in) fun b o z => a2.free (newOf_some z).1)
    · exact (a5.trans s5').free hp
    · exact (Same.new' hw) _ _ ((Same.new' hl) _ _ upd_same)
    · exact d4.up (to_new (st4 _ newOf_in) fun b o z => a4.free (newOf_some z).1)
    · exact d5.up (to_new (st5 _ newOf_in) fun b o z => a5.free (newOf_some z).1)
end
end K03
namespace K03
open PySem PySem.Spec PyProof.Rows L2
abbrev s_law : Stmt := top 29
/-! ### the plain law: what wrong_field answers to bent rows -/
def wordsL : List Str := ["limit", "tries", "pauses", "early", "lossy", "ending"]
def word (i : Nat) : Str := wordsL.getD i ""
def goodD : List PyData := [.int 5, .int 3, .tuple [.int 0, .int 1], .none, .bool false, .tuple [.str "go"]]
def W (i : Nat) : List PyData := match wrongRows[i]? with | some (.list ds) => ds | _ => []
def wf6 (ds : List PyData) : Option Str := match ds with | [a, b, c, d, e, f] => wrongField a b c d e f | _ => none
theorem all_of {α : Type} {p : α → Bool} {l : List α} (h : l.all p = true) {x : α} (hx : x ∈ l) : p x = true := List.all_eq_true.mp h x hx
theorem w0 {d : PyData} (h : d ∈ W 0) : isBetw d 1 20 = false := by
  have z : ((W 0).all fun d => !isBetw d 1 20) = true := by decide +kernel
  simpa using all_of z h
theorem w1 {d : PyData} (h : d ∈ W 1) : isBetw d 1 3 = false := by
  have z : ((W 1).all fun d => !isBetw d 1 3) = true := by decide +kernel
  simpa using all_of z h
theorem w2 {d : PyData} (h : d ∈ W 2) : notN d = true ∧ arePauses d 3 = false := by
  have z : ((W 2).all fun d => notN d && !arePauses d 3) = true := by decide +kernel
  simpa using all_of z h
theorem w3 {d : PyData} (h : d ∈ W 3) : notN d = true ∧ isBetw d 1 20 = false := by
  have z : ((W 3).all fun d => notN d && !isBetw d 1 20) = true := by decide +kernel
  simpa using all_of z h
theorem w4 {d : PyData} (h : d ∈ W 4) : isBoolD d = false := by
  have z : ((W 4).all fun d => !isBoolD d) = true := by decide +kernel
  simpa using all_of z h
theorem w5 {d : PyData} (h : d ∈ W 5) : isEnding d = false := by
  have z : ((W 5).all fun d => !isEnding d) = true := by decide +kernel
  simpa using all_of z h
section
variable {a b c d e f : PyData}
theorem wf_0 (h : a ∈ W 0) : wrongField a b c d e f = some "limit" := by
  unfold wrongField
  rw [w0 h]
  rfl
theorem wf_1 (h : b ∈ W 1) : wrongField (.int 5) b c d e f = some "tries" := by
  unfold wrongField
  rw [w1 h]
  rfl
theorem wf_2 (h : c ∈ W 2) : wrongField (.int 5) (.int 3) c d e f = some "pauses" := by
  obtain ⟨h1, h2⟩ := w2 h
  show cond (notN c && (notN d || !arePauses c 3)) _ _ = _
  rw [h1, h2, Bool.not_false, Bool.or_true]
  rfl
theorem wf_3 (h : d ∈ W 3) : wrongField (.int 5) (.int 3) .none d e f = some "early" := by
  obtain ⟨h1, h2⟩ := w3 h
  show cond (notN d && (false || !isBetw d 1 20)) _ _ = _
  rw [h1, h2]
  rfl
theorem wf_4 (h : e ∈ W 4) : wrongField (.int 5) (.int 3) (.tuple [.int 0, .int 1]) .none e f = some "lossy" := by
  show cond (isBoolD e) _ _ = _
  rw [w4 h]
  rfl
theorem wf_5 (h : f ∈ W 5) : wrongField (.int 5) (.int 3) (.tuple [.int 0, .int 1]) .none (.bool false) f = some "ending" := by
  show cond (isEnding f) _ _ = _
  rw [w5 h]
  rfl
end
/-- what holds of the bent row behind i of the six, f the first field that was bent -/
def Inv6 (i : Nat) (f : Option Nat) (ds : List PyData) : Prop := match f with
  | none => ds = goodD
  | some j => j < i ∧ ds.length = 6 ∧ (∃ d ∈ W j, ds[j]? = some d) ∧ ∀ k, k < j → ds[k]? = (if j = 3 then goodD.set 2 .none else goodD)[k]?
theorem Inv6.len {i : Nat} {f : Option Nat} {ds : List PyData} (h : Inv6 i f ds) : ds.length = 6 := by
  cases f with
  | none => cases h; rfl
  | some j => exact h.2.1
theorem Inv6.skip {i : Nat} {f : Option Nat} {ds : List PyData} (h : Inv6 i f ds) : Inv6 (i + 1) f ds := by
  cases f with
  | none => exact h
  | some j => exact ⟨Nat.lt_succ_of_lt h.1, h.2⟩
theorem Inv6.hit0 {i : Nat} {ds : List PyData} {d : PyData} (h : Inv6 i none ds) (hi : i < 6) (hd : d ∈ W i) : Inv6 (i + 1) (some i) (if i = 3 then (ds.set i d).set 2 .none else ds.set i d) := by
  cases h
  refine ⟨Nat.lt_succ_self i, ?_, ⟨d, hd, ?_⟩, fun k hk => ?_⟩
  · split <;> simp [goodD]
  · match i, hi with
    | 0, _ => rfl
    | 1, _ => rfl
    | 2, _ => rfl
    | 3, _ => rfl
    | 4, _ => rfl
    | 5, _ => rfl
  · match i, hi, k, hk with
    | 1, _, 0, _ => rfl
    | 2, _, 0, _ => rfl
    | 2, _, 1, _ => rfl
    | 3, _, 0, _ => rfl
    | 3, _, 1, _ => rfl
    | 3, _, 2, _ => rfl
    | 4, _, 0, _ => rfl
    | 4, _, 1, _ => rfl
    | 4, _, 2, _ => rfl
    | 4, _, 3, _ => rfl
    | 5, _, 0, _ => rfl
    | 5, _, 1, _ => rfl
    | 5, _, 2, _ => rfl
    | 5, _, 3, _ => rfl
    | 5, _, 4, _ => rfl
theorem Inv6.hit1 {i j : Nat} {ds : List PyData} {d : PyData} (h : Inv6 i (some j) ds) : Inv6 (i + 1) (some j) (ds.set i d) := by
  obtain ⟨h1, h2, ⟨e, h3, h4⟩, h5⟩ := h
  refine ⟨Nat.lt_succ_of_lt h1, by simp [h2], ⟨e, h3, ?_⟩, fun k hk => ?_⟩
  · rw [List.getElem?_set_ne (by omega)]
    exact h4
  · rw [List.getElem?_set_ne (by omega)]
    exact h5 k hk
theorem Inv6.fin {j : Nat} {ds : List PyData} (h : Inv6 6 (some j) ds) : wf6 ds = some (word j) := by
  obtain ⟨h1, h2, ⟨x, h3, h4⟩, h5⟩ := h
  match ds, h2 with
  | [a, b, c, d, e, f], _ =>
    match j, h1 with
    | 0, _ => cases h4; exact wf_0 h3
    | 1, _ =>
      cases h4
      cases (show some a = some (PyData.int 5) from h5 0 (by decide))
      exact wf_1 h3
    | 2, _ =>
      cases h4
      cases (show some a = some (PyData.int 5) from h5 0 (by decide))
      cases (show some b = some (PyData.int 3) from h5 1 (by decide))
      exact wf_2 h3
    | 3, _ =>
      cases h4
      cases (show some a = some (PyData.int 5) from h5 0 (by decide))
      cases (show some b = some (PyData.int 3) from h5 1 (by decide))
      cases (show some c = some PyData.none from h5 2 (by decide))
      exact wf_3 h3
    | 4, _ =>
      cases h4
      cases (show some a = some (PyData.int 5) from h5 0 (by decide))
      cases (show some b = some (PyData.int 3) from h5 1 (by decide))
      cases (show some c = some (PyData.tuple [.int 0, .int 1]) from h5 2 (by decide))
      cases (show some d = some PyData.none from h5 3 (by decide))
      exact wf_4 h3
    | 5, _ =>
      cases h4
      cases (show some a = some (PyData.int 5) from h5 0 (by decide))
      cases (show some b = some (PyData.int 3) from h5 1 (by decide))
      cases (show some c = some (PyData.tuple [.int 0, .int 1]) from h5 2 (by decide))
      cases (show some d = some PyData.none from h5 3 (by decide))
      cases (show some e = some (PyData.bool false) from h5 4 (by decide))
      exact wf_5 h3
theorem wf_good : wf6 goodD = none := by decide +kernel
theorem name_a : isName (.str "a") = true := by decide +kernel
def namesD : List PyData := [.none, .int 5, .str "", .str "A", .str "ninesigns", .str "a b", .str "a1", .list [.str "a"], .bool true, .str "a~"]
theorem names_ok {d : PyData} (h : d ∈ namesD) : isName d = false ∧ d.showable = true ∧ d.hasDict = false ∧ d.depth ≤ 60 ∧ d.shown.length ≤ 1000 := by
  have z : (namesD.all fun d => !isName d && (d.showable && (!d.hasDict && (decide (d.depth ≤ 60) && decide (d.shown.length ≤ 1000))))) = true := by decide +kernel
  have y := all_of z h
  simpa only [Bool.and_eq_true, Bool.not_eq_true', decide_eq_true_eq] using y
def firstV : Option Nat → V | none => .non | some j => .str (word j)
theorem DqA.set {K : PySem.W.Frag} {H : Hp} {x : V} {d : PyData} (h : Dq K H x d) : ∀ {vs : List V} {ds : List PyData} (i : Nat), DqA K H vs ds → DqA K H (vs.set i x) (ds.set i d)
  | _, _, _, .nil => .nil
  | _, _, 0, .cons _ r => .cons h r
  | _, _, i + 1, .cons a r => .cons a (DqA.set h i r)
theorem DqA.mem {K : PySem.W.Frag} {H : Hp} : ∀ {vs : List V} {ds : List PyData} {v : V}, DqA K H vs ds → v ∈ vs → ∃ d ∈ ds, Dq K H v d
  | _, _, _, .nil, h => by cases h
  | _, _, _, .cons a r, h => by
    rcases List.mem_cons.mp h with rfl | h
    · exact ⟨_, List.mem_cons_self, a⟩
    · obtain ⟨d, h1, h2⟩ := DqA.mem r h
      exact ⟨d, List.mem_cons_of_mem _ h1, h2⟩
theorem ixN_at {n i : Nat} (h : i < n) : ixN n (i : Int) = some i := by
  unfold ixN
  rw [if_pos (by omega), if_pos (by omega)]
  simp
theorem W_ne {i : Nat} (h : i < 6) : W i ≠ [] ∧ (W i).length ≤ 1000 := by
  match i, h with
  | 0, _ => exact ⟨by decide, by decide⟩
  | 1, _ => exact ⟨by decide, by decide⟩
  | 2, _ => exact ⟨by decide, by decide⟩
  | 3, _ => exact ⟨by decide, by decide⟩
  | 4, _ => exact ⟨by decide, by decide⟩
  | 5, _ => exact ⟨by decide, by decide⟩
theorem rows_at {i : Nat} {rd : PyData} (hi : i < 6) (h : wrongRows[i]? = some rd) : rd = .list (W i) := by
  match i, hi with
  | 0, _ => cases h; rfl
  | 1, _ => cases h; rfl
  | 2, _ => cases h; rfl
  | 3, _ => cases h; rfl
  | 4, _ => cases h; rfl
  | 5, _ => cases h; rfl

structure Blt2 (mg : Str → Option Value) : Prop where
  range : mg "range" = none
  enum : mg "enumerate" = none
  max : mg "max" = none
  min : mg "min" = none
  repr : mg "repr" = none
  list : mg "list" = none
def spLaw (K : PySem.W.Frag) : Sp := fun vs H Q _ => ∃ (a : Addr) (ns : List Int), vs = [.ref a] ∧ SqL K H a (ns.map V.int) ∧ ns.length ≤ 63 ∧ ∀ H', Q (.bl true) H'
section
variable {P : Program} {w : World} {K : PySem.W.Frag} {mg : Str → Option Value} {base : Heap} {f g : Addr} {fd gd : FuncData} {CX : CXT}
theorem sc_law : FnScope ["_law_script", "_law_words", "_law_good", "_law_at", "_law_row", "_law_value", "_law_bent", "_law_k", "_law_pool_here", "_law_first"] ["_law_script"] (defScope s_law) := ⟨rfl, rfl, rfl, by decide +kernel, rfl, by decide +kernel, by decide +kernel⟩
theorem ok_law (F : FnP K "law" s_law f fd) (B : Blt mg) (M : Blt2 mg) {gT gW gP gD gC : Addr} {eT eW eP eD eC : FuncData}
    (FT : FnG P w K mg base CX0 8 gT eT ["_law_name", "_law_row"] (spTold K)) (mT : mg "_law_told" = some (.ref gT)) (GT : FnP K "_law_told" s_law_told gT eT)
    (GW : FnP K "_law_wrong" s_law_wrong gW eW) (mW : mg "_law_wrong" = some (.ref gW)) (GP : FnP K "_law_pool" s_law_pool gP eP) (mP : mg "_law_pool" = some (.ref gP))
    (GD : FnP K "_law_draw" s_law_draw gD eD) (mD : mg "_law_draw" = some (.ref gD)) (GC : FnP K "_law_choose" s_law_choose gC eC) (mC : mg "_law_choose" = some (.ref gC)) :
    FnG P w K mg base CX0 9 f fd ["_law_script"] (spLaw K) := by
  have bT : Binds K eT ["_law_name", "_law_row"] [] := GT.bindsN fun _ _ _ _ _ _ us hl => match us, hl with | [_, _], _ => rfl
  have bW : Binds K eW [] [] := GW.bindsN fun _ _ _ _ _ _ us hl => match us, hl with | [], _ => rfl
  have bP : Binds K eP ["_law_script", "_law_k"] [] := GP.bindsN fun _ _ _ _ _ _ us hl => match us, hl with | [_, _], _ => rfl
  have bD : Binds K eD ["_law_pool_here", "_law_many"] [] := GD.bindsN fun _ _ _ _ _ _ us hl => match us, hl with | [_, _], _ => rfl
  have bC : Binds K eC ["_law_pool_here", "_law_items"] [] := GC.bindsN fun _ _ _ _ _ _ us hl => match us, hl with | [_, _], _ => rfl
  have FW : FnOk P w K mg base CX0 1 gW eW [] (spWrongRows K) := ok_law_wrong GW
  have FP : FnOk P w K mg base CX0 1 gP eP ["_law_script", "_law_k"] (spPool K) := ok_law_pool GP B.len B.int
  have FD : FnOk P w K mg base CX0 1 gD eD ["_law_pool_here", "_law_many"] spDraw := ok_law_draw GD B.int
  have FC : FnOk P w K mg base CX0 2 gC eC ["_law_pool_here", "_law_items"] (spChoose K) := ok_law_choose GC GD mD B.len B.int
  refine F.okG sc_law (fun vs H Q E h => ?_) (fun cdv A outer s H vs Q E hgd hr h => ?_)
  · obtain ⟨_, _, rfl, _⟩ := h
    rfl
  · obtain ⟨a, ns, rfl, hS, hlen, q⟩ := h
    have hu := hr.units
    have hr1 := hr.mono (by decide : 1 ≤ 8)
    have hr2 := hr.mono (by decide : 2 ≤ 8)
    refine ⟨_, PSs.nox (pss_cons (ps_set (i := 1) sc_law.nd rfl (Or.inl rfl) (pl_lst (pla_cons pl_str (pla_cons pl_str (pla_cons pl_str (pla_cons pl_str (pla_cons pl_str (pla_cons pl_str pla_nil))))))))
      (pss_cons (ps_set (i := 2) sc_law.nd rfl (Or.inl rfl) (pl_lst (pla_cons pl_int (pla_cons pl_int (pla_cons (pl_tup (pla_cons pl_int (pla_cons pl_int pla_nil))) (pla_cons pl_non (pla_cons pl_bl (pla_cons (pl_tup (pla_cons pl_str pla_nil)) pla_nil))))))))
      (pss_cons (ps_if (pt_cmpR op_ne (pe_callG FT hgd hr rfl mT GT.kp bT .nil pass0 (pa_cons pe_str (pa_cons (pv 2) pa_nil))) pe_str (nomark _)) (pss_one (ps_ret pe_bl)) pss_nil)
      (pss_cons (ps_for PassesOwn.never rfl (pi_enum (by rfl) M.enum (pa_cons (pe_call0 FW hr1 rfl mW GW.kp bW .nil pass0) pa_nil)) (pg_tup (by rfl) (pgs_cons (pg_name (i := 3) sc_law.nd rfl (Or.inl rfl)) (pgs_cons (pg_name (i := 4) sc_law.nd rfl (Or.inl rfl)) pgs_nil)))
        (pss_one (ps_for PassesOwn.never rfl (pi_list (pv 4)) (pg_name (i := 5) sc_law.nd rfl (Or.inl rfl))
        (pss_cons (ps_set (i := 6) sc_law.nd rfl (Or.inl rfl) (pe_op op_cat (pe_op op_cat (pe_slice sl_list (pv 2) po_none (po_some (pv 3))) (pe_lst (pa_cons (pv 5) pa_nil))) (pe_slice sl_list (pv 2) (po_some (pe_op op_add (pv 3) pe_int)) po_none)))
      (pss_cons (ps_if (pt_cmpR op_eq (pv 3) pe_int (nomark _)) (pss_one (ps_asg pe_non (pg_sub (pv 6) pe_int set_list))) pss_nil)
      (pss_one (ps_if (pt_cmpR op_ne (pe_callG FT hgd hr rfl mT GT.kp bT .nil pass0 (pa_cons pe_str (pa_cons (pv 6) pa_nil))) (pe_ix ix_list (pv 1) (pv 3) (fun _ _ => rfl)) (nomark _)) (pss_one (ps_ret pe_bl)) pss_nil)))))))
      (pss_cons (ps_for PassesOwn.never rfl (pi_list (pl_lst (pla_cons (pl_lst (pla_cons pl_int (pla_cons pl_int (pla_cons (pl_tup (pla_cons pl_int pla_nil)) (pla_cons pl_int (pla_cons pl_bl (pla_cons (pl_tup (pla_cons pl_str pla_nil)) pla_nil))))))) (pla_cons (pl_lst (pla_cons pl_int (pla_cons pl_int (pla_cons pl_non (pla_cons pl_int (pla_cons pl_bl (pla_cons (pl_tup (pla_cons pl_str pla_nil)) pla_nil))))))) pla_nil)))) (pg_name (i := 6) sc_law.nd rfl (Or.inl rfl))
        (pss_one (ps_if (pt_cmpR op_ne (pe_callG FT hgd hr rfl mT GT.kp bT .nil pass0 (pa_cons pe_str (pa_cons (pv 6) pa_nil))) (pe_ix ix_list (pl_lst (pla_cons pl_str (pla_cons pl_str pla_nil))) (pe_callTy call_int1 (by rfl) B.int (by decide +kernel) (pa_cons (pe_cmpR op_eq (pe_ix ix_list (pv 6) pe_int (fun _ _ => rfl)) pe_int (nomark _)) pa_nil)) (fun _ _ => rfl)) (nomark _)) (pss_one (ps_ret pe_bl)) pss_nil)))
      (pss_cons (ps_for PassesOwn.never rfl (pi_range1 rfl M.range (pa_cons (pe_callB (call_max2 rfl) (by rfl) M.max (by decide +kernel) (pa_cons pe_int (pa_cons (pe_callB (call_min2 rfl) (by rfl) M.min (by decide +kernel) (pa_cons (pe_callB call_len (by rfl) B.len (by decide +kernel) (pa_cons (pv 0) pa_nil)) (pa_cons pe_int pa_nil))) pa_nil))) pa_nil)) (pg_name (i := 7) sc_law.nd rfl (Or.inl rfl))
        (pss_cons (ps_set (i := 8) sc_law.nd rfl (Or.inl rfl) (pe_call FP hr1 rfl mP GP.kp bP .nil pass0 (pa_cons (pv 0) (pa_cons (pv 7) pa_nil))))
      (pss_cons (ps_for PassesOwn.never rfl (pi_list (pl_lst (pla_cons pl_non (pla_cons pl_int (pla_cons pl_str (pla_cons pl_str (pla_cons pl_str (pla_cons pl_str (pla_cons pl_str (pla_cons (pl_lst (pla_cons pl_str pla_nil)) (pla_cons pl_bl (pla_cons pl_str pla_nil)))))))))))) (pg_name (i := 5) sc_law.nd rfl (Or.inl rfl))
        (pss_one (ps_if (pt_cmpR op_ne (pe_callG FT hgd hr rfl mT GT.kp bT .nil pass0 (pa_cons (pv 5) (pa_cons (pe_op op_rep (pe_lst (pa_cons pe_non pa_nil)) pe_int) pa_nil))) (pe_op op_add_str pe_str (pe_callB (id := "repr") (r := rRepr K) (by exact call_repr hgd hu) (by rfl) M.repr (by decide +kernel) (pa_cons (pv 5) pa_nil))) (nomark _)) (pss_one (ps_ret pe_bl)) pss_nil)))
      (pss_cons (ps_par (i := 6) (j := 9) (by rfl) sc_law.nd rfl rfl (by decide) rfl rfl (pa_cons (pe_callTy call_list_of (by rfl) M.list (by decide +kernel) (pa_cons (pv 2) pa_nil)) (pa_cons pe_non pa_nil)) (by rfl))
      (pss_cons (ps_for PassesOwn.never rfl (pi_enum (by rfl) M.enum (pa_cons (pe_call0 FW hr1 rfl mW GW.kp bW .nil pass0) pa_nil)) (pg_tup (by rfl) (pgs_cons (pg_name (i := 3) sc_law.nd rfl (Or.inl rfl)) (pgs_cons (pg_name (i := 4) sc_law.nd rfl (Or.inl rfl)) pgs_nil)))
        (pss_one (ps_if (pt_cmpR op_eq (pe_call FD hr1 rfl mD GD.kp bD .nil pass0 (pa_cons (pv 8) (pa_cons pe_int pa_nil))) pe_int (nomark _)) (pss_cons (ps_asg (pe_call FC hr2 rfl mC GC.kp bC .nil pass0 (pa_cons (pv 8) (pa_cons (pv 4) pa_nil))) (pg_sub (pv 6) (pv 3) set_list))
      (pss_cons (ps_if (PW.pt (pw_and (pt_cmpR op_eq (pv 3) pe_int (nomark _)) (pw_and1 (pt_cmp (pc_isN (pv 9)))))) (pss_one (ps_asg pe_non (pg_sub (pv 6) pe_int set_list))) pss_nil)
      (pss_one (ps_set (i := 9) sc_law.nd rfl (Or.inl rfl) (pe_ifExp (pt_cmp (pc_isN (pv 9))) (pe_ix ix_list (pv 1) (pv 3) (fun _ _ => rfl)) (pv 9)))))) pss_nil)))
      (pss_cons (ps_if (PW.pt (pw_and (pt_cmp (pc_notN (pv 9))) (pw_and (pt_cmpR op_notIn_seq pe_str (pe_lst (pa_cons (pv 9) pa_nil)) (by rfl)) (pw_and1 (pt_cmpR op_ne (pe_callG FT hgd hr rfl mT GT.kp bT .nil pass0 (pa_cons pe_str (pa_cons (pv 6) pa_nil))) (pv 9) (nomark _)))))) (pss_one (ps_ret pe_bl)) pss_nil)
      (pss_one (ps_if (PW.pt (pw_and (pt_cmpR op_eq (pv 9) pe_str (nomark _)) (pw_and1 (pt_cmpR op_ne (pe_callG FT hgd hr rfl mT GT.kp bT .nil pass0 (pa_cons pe_str (pa_cons (pv 6) pa_nil))) pe_str (nomark _))))) (pss_one (ps_ret pe_bl)) pss_nil))))))))
      (pss_one (ps_ret pe_bl)))))))), ?_⟩
    intro wv H1 s1 dW
    intro gv H2 s2 dG
    have dW2 := dW.up (newOf_in.trans s2)
    have dG2 := dG.up newOf_in
    have hS2 := (s1.trans s2).seq hS
    clear dW dG
    cases dW2 with
    | @lst wa wvs _ hW hWA =>
    cases dG2 with
    | @lst ga gvs _ hG hGA =>
    cases hGA with
    | @cons g0 _ _ _ k0 hGA =>
    cases hGA with
    | @cons g1 _ _ _ k1 hGA =>
    cases hGA with
    | @cons g2 _ _ _ k2 hGA =>
    cases hGA with
    | @cons g3 _ _ _ k3 hGA =>
    cases hGA with
    | @cons g4 _ _ _ k4 hGA =>
    cases hGA with
    | @cons g5 _ _ _ k5 hGA =>
    cases hGA
    -- told('a', good)
    refine ⟨_, rfl, ga, .str "a", g0, g1, g2, g3, g4, g5, .str "a", _, _, _, _, _, _, rfl, hG, .str "a" (by decide), k0, k1, k2, k3, k4, k5, (fun e => by rw [name_a] at e; cases e), (fun _ _ => ⟨_, _, rfl⟩), fun H3 s3 => ?_⟩
    refine ⟨rfl, _, rfl, iteNY (congrArg V.str (by decide +kernel)) ?_⟩
    -- the words by their places
    have hword : ∀ {i : Nat} {H' : Hp}, i < 6 → Same H2 H' → SqL K H' wa wvs ∧ atI wvs (i : Int) = some (.str (word i)) := fun {i H'} hi s => by
      refine ⟨s.seq hW, atI_nat ?_⟩
      have lw : wvs.length = 6 := hWA.len
      obtain ⟨y, hy⟩ : ∃ y, wvs[i]? = some y := ⟨wvs[i]'(by omega), by simp [lw, hi]⟩
      obtain ⟨dd, h1, h2⟩ := hWA.at hy
      rw [hy]
      match i, hi with
      | 0, _ => cases h1; cases h2; rfl
      | 1, _ => cases h1; cases h2; rfl
      | 2, _ => cases h1; cases h2; rfl
      | 3, _ => cases h1; cases h2; rfl
      | 4, _ => cases h1; cases h2; rfl
      | 5, _ => cases h1; cases h2; rfl
    -- for at, row in enumerate(wrong())
    refine ⟨rfl, fun lv H4 s4 dL => ?_⟩
    have dL4 := dL.up newOf_in
    clear dL
    cases dL4 with
    | @lst la lvs _ hL hLA =>
    have ll : lvs.length = 6 := hLA.len
    have s24 : Same H2 H4 := s3.trans s4
    refine ⟨la, lvs, rfl, hL, for_it walk_enum (fun _ σ Hc => Same H4 Hc ∧ ∃ o3 o4 o5 o6, σ = [some (.ref a), some (.ref wa), some (.ref ga), o3, o4, o5, o6, none, none, none])
      ⟨Same.refl H4, none, none, none, none, rfl⟩ (fun i σ Hc _ h => h.1.seq hL) ?_ ?_⟩
    · rintro i x σ Hc Hc' hi ⟨sc, o3, o4, o5, o6, rfl⟩ ⟨T, x1, rv, rfl, hT, rfl, e1, e2⟩
      cases e1
      rw [ll] at hi
      refine ⟨T, _, rfl, SqT.of upd_same, rfl, _, _, rfl, _, _, rfl, rfl, ?_⟩
      have sT : Same H4 (upd Hc T (.tup [.int i, rv])) := sc.trans (Same.new' hT)
      obtain ⟨rd, hrd, dR⟩ := hLA.at e2
      have erd : rd = .list (W i) := by
        match i, hi with
        | 0, _ => cases hrd; rfl
        | 1, _ => cases hrd; rfl
        | 2, _ => cases hrd; rfl
        | 3, _ => cases hrd; rfl
        | 4, _ => cases hrd; rfl
        | 5, _ => cases hrd; rfl
      subst erd
      cases dR with
      | @lst ra rvs _ hR hRA =>
      refine ⟨_, rfl, ra, rfl, ⟨_, sT.seq hR⟩, for_list (K := K) (a := ra) (xs := rvs) (fun _ σ Hc => Same H4 Hc ∧ ∃ o5 o6, σ = [some (.ref a), some (.ref wa), some (.ref ga), some (.int i), some (.ref ra), o5, o6, none, none, none])
        ⟨sT, _, _, rfl⟩ (fun j σ Hc _ h => h.1.seq hR) ?_ ?_⟩
      · rintro j y σ Hc hj ⟨sj, o5, o6, rfl⟩
        obtain ⟨d, hdm, dy⟩ := hRA.at hj
        have hd : d ∈ W i := List.mem_of_getElem? hdm
        have s2c : Same H2 Hc := s24.trans sj
        have hGc := s2c.seq hG
        have hi6 : i = 0 ∨ i = 1 ∨ i = 2 ∨ i = 3 ∨ i = 4 ∨ i = 5 := by omega
        rcases hi6 with rfl | rfl | rfl | rfl | rfl | rfl
        · refine ⟨_, rfl, _, rfl, _, rfl, ga, _, rfl, hGc, fun p1 hp1 => ?_⟩
          refine ⟨_, rfl, (by show 1 ≤ sizeLine; decide), fun p2 hp2 => ?_⟩
          refine ⟨p1, p2, _, _, rfl, rfl, (Same.new' hp2) _ _ upd_same, upd_same, (by show _ ≤ sizeLine; exact Nat.le_trans (by decide : 0 + 1 ≤ 100) (by decide)), fun p3 hp3 => ?_⟩
          refine ⟨_, rfl, _, rfl, _, _, rfl, rfl, _, rfl, ga, _, rfl, (((Same.new' hp1).trans (Same.new' hp2)).trans (Same.new' hp3)).seq hGc, fun p4 hp4 => ?_⟩
          refine ⟨p3, p4, _, _, rfl, rfl, (Same.new' hp4) _ _ upd_same, upd_same, (by show _ ≤ sizeLine; exact Nat.le_trans (by decide : 0 + 1 + 5 ≤ 100) (by decide)), fun p5 hp5 => ?_⟩
          have sA := sj.trans (((Same.new' (o := _) hp1).trans (Same.new' (o := _) hp2)).trans ((Same.new' (o := _) hp3).trans (Same.new' (o := .lst (cutV [g0, g1, g2, g3, g4, g5] (some (((0 : Nat) : Int) + 1)) none)) hp4)))
          have sB := sA.mut (o := .lst (cutV [g0, g1, g2, g3, g4, g5] none (some ((0 : Nat) : Int)) ++ [y] ++ cutV [g0, g1, g2, g3, g4, g5] (some (((0 : Nat) : Int) + 1)) none)) (sA.free hp5)
          refine ⟨_, rfl, rfl, _, rfl, iteN (fun z => nomatch z) ?_⟩
          have s4b := sB
          have s2b := s24.trans s4b
          refine ⟨_, rfl, p5, .str "a", y, g1, g2, g3, g4, g5, .str "a", _, _, _, _, _, _, rfl, SqL.of upd_same, .str "a" (by decide), (dy.up s4b), (k1.up s2b), (k2.up s2b), (k3.up s2b), (k4.up s2b), (k5.up s2b), (fun e => by rw [name_a] at e; cases e), (fun _ e => by rw [wf_0 hd] at e; cases e), fun H5 s5 => ?_⟩
          obtain ⟨hw1, hw2⟩ := hword (i := 0) (H' := H5) (by decide) (s2b.trans s5)
          refine ⟨_, rfl, _, rfl, wa, wvs, _, _, rfl, rfl, hw1, hw2, rfl, _, rfl, iteNY (congrArg V.str (by unfold toldT; rw [name_a, wf_0 hd]; rfl)) ?_⟩
          exact ⟨s4b.trans s5, _, _, rfl⟩
        · refine ⟨_, rfl, _, rfl, _, rfl, ga, _, rfl, hGc, fun p1 hp1 => ?_⟩
          refine ⟨_, rfl, (by show 1 ≤ sizeLine; decide), fun p2 hp2 => ?_⟩
          refine ⟨p1, p2, _, _, rfl, rfl, (Same.new' hp2) _ _ upd_same, upd_same, (by show _ ≤ sizeLine; exact Nat.le_trans (by decide : 1 + 1 ≤ 100) (by decide)), fun p3 hp3 => ?_⟩
          refine ⟨_, rfl, _, rfl, _, _, rfl, rfl, _, rfl, ga, _, rfl, (((Same.new' hp1).trans (Same.new' hp2)).trans (Same.new' hp3)).seq hGc, fun p4 hp4 => ?_⟩
          refine ⟨p3, p4, _, _, rfl, rfl, (Same.new' hp4) _ _ upd_same, upd_same, (by show _ ≤ sizeLine; exact Nat.le_trans (by decide : 1 + 1 + 4 ≤ 100) (by decide)), fun p5 hp5 => ?_⟩
          have sA := sj.trans (((Same.new' (o := _) hp1).trans (Same.new' (o := _) hp2)).trans ((Same.new' (o := _) hp3).trans (Same.new' (o := .lst (cutV [g0, g1, g2, g3, g4, g5] (some (((1 : Nat) : Int) + 1)) none)) hp4)))
          have sB := sA.mut (o := .lst (cutV [g0, g1, g2, g3, g4, g5] none (some ((1 : Nat) : Int)) ++ [y] ++ cutV [g0, g1, g2, g3, g4, g5] (some (((1 : Nat) : Int) + 1)) none)) (sA.free hp5)
          refine ⟨_, rfl, rfl, _, rfl, iteN (fun z => nomatch z) ?_⟩
          have s4b := sB
          have s2b := s24.trans s4b
          refine ⟨_, rfl, p5, .str "a", g0, y, g2, g3, g4, g5, .str "a", _, _, _, _, _, _, rfl, SqL.of upd_same, .str "a" (by decide), (k0.up s2b), (dy.up s4b), (k2.up s2b), (k3.up s2b), (k4.up s2b), (k5.up s2b), (fun e => by rw [name_a] at e; cases e), (fun _ e => by rw [wf_1 hd] at e; cases e), fun H5 s5 => ?_⟩
          obtain ⟨hw1, hw2⟩ := hword (i := 1) (H' := H5) (by decide) (s2b.trans s5)
          refine ⟨_, rfl, _, rfl, wa, wvs, _, _, rfl, rfl, hw1, hw2, rfl, _, rfl, iteNY (congrArg V.str (by unfold toldT; rw [name_a, wf_1 hd]; rfl)) ?_⟩
          exact ⟨s4b.trans s5, _, _, rfl⟩
        · refine ⟨_, rfl, _, rfl, _, rfl, ga, _, rfl, hGc, fun p1 hp1 => ?_⟩
          refine ⟨_, rfl, (by show 1 ≤ sizeLine; decide), fun p2 hp2 => ?_⟩
          refine ⟨p1, p2, _, _, rfl, rfl, (Same.new' hp2) _ _ upd_same, upd_same, (by show _ ≤ sizeLine; exact Nat.le_trans (by decide : 2 + 1 ≤ 100) (by decide)), fun p3 hp3 => ?_⟩
          refine ⟨_, rfl, _, rfl, _, _, rfl, rfl, _, rfl, ga, _, rfl, (((Same.new' hp1).trans (Same.new' hp2)).trans (Same.new' hp3)).seq hGc, fun p4 hp4 => ?_⟩
          refine ⟨p3, p4, _, _, rfl, rfl, (Same.new' hp4) _ _ upd_same, upd_same, (by show _ ≤ sizeLine; exact Nat.le_trans (by decide : 2 + 1 + 3 ≤ 100) (by decide)), fun p5 hp5 => ?_⟩
          have sA := sj.trans (((Same.new' (o := _) hp1).trans (Same.new' (o := _) hp2)).trans ((Same.new' (o := _) hp3).trans (Same.new' (o := .lst (cutV [g0, g1, g2, g3, g4, g5] (some (((2 : Nat) : Int) + 1)) none)) hp4)))
          have sB := sA.mut (o := .lst (cutV [g0, g1, g2, g3, g4, g5] none (some ((2 : Nat) : Int)) ++ [y] ++ cutV [g0, g1, g2, g3, g4, g5] (some (((2 : Nat) : Int) + 1)) none)) (sA.free hp5)
          refine ⟨_, rfl, rfl, _, rfl, iteN (fun z => nomatch z) ?_⟩
          have s4b := sB
          have s2b := s24.trans s4b
          refine ⟨_, rfl, p5, .str "a", g0, g1, y, g3, g4, g5, .str "a", _, _, _, _, _, _, rfl, SqL.of upd_same, .str "a" (by decide), (k0.up s2b), (k1.up s2b), (dy.up s4b), (k3.up s2b), (k4.up s2b), (k5.up s2b), (fun e => by rw [name_a] at e; cases e), (fun _ e => by rw [wf_2 hd] at e; cases e), fun H5 s5 => ?_⟩
          obtain ⟨hw1, hw2⟩ := hword (i := 2) (H' := H5) (by decide) (s2b.trans s5)
          refine ⟨_, rfl, _, rfl, wa, wvs, _, _, rfl, rfl, hw1, hw2, rfl, _, rfl, iteNY (congrArg V.str (by unfold toldT; rw [name_a, wf_2 hd]; rfl)) ?_⟩
          exact ⟨s4b.trans s5, _, _, rfl⟩
        · refine ⟨_, rfl, _, rfl, _, rfl, ga, _, rfl, hGc, fun p1 hp1 => ?_⟩
          refine ⟨_, rfl, (by show 1 ≤ sizeLine; decide), fun p2 hp2 => ?_⟩
          refine ⟨p1, p2, _, _, rfl, rfl, (Same.new' hp2) _ _ upd_same, upd_same, (by show _ ≤ sizeLine; exact Nat.le_trans (by decide : 3 + 1 ≤ 100) (by decide)), fun p3 hp3 => ?_⟩
          refine ⟨_, rfl, _, rfl, _, _, rfl, rfl, _, rfl, ga, _, rfl, (((Same.new' hp1).trans (Same.new' hp2)).trans (Same.new' hp3)).seq hGc, fun p4 hp4 => ?_⟩
          refine ⟨p3, p4, _, _, rfl, rfl, (Same.new' hp4) _ _ upd_same, upd_same, (by show _ ≤ sizeLine; exact Nat.le_trans (by decide : 3 + 1 + 2 ≤ 100) (by decide)), fun p5 hp5 => ?_⟩
          have sA := sj.trans (((Same.new' (o := _) hp1).trans (Same.new' (o := _) hp2)).trans ((Same.new' (o := _) hp3).trans (Same.new' (o := .lst (cutV [g0, g1, g2, g3, g4, g5] (some (((3 : Nat) : Int) + 1)) none)) hp4)))
          have sB := sA.mut (o := .lst (cutV [g0, g1, g2, g3, g4, g5] none (some ((3 : Nat) : Int)) ++ [y] ++ cutV [g0, g1, g2, g3, g4, g5] (some (((3 : Nat) : Int) + 1)) none)) (sA.free hp5)
          refine ⟨_, rfl, rfl, _, rfl, iteY rfl ?_⟩
          refine ⟨_, rfl, p5, _, 2, 2, rfl, rfl, upd_same, rfl, ?_⟩
          have s4b := sB.mut (o := .lst (List.set (cutV [g0, g1, g2, g3, g4, g5] none (some ((3 : Nat) : Int)) ++ [y] ++ cutV [g0, g1, g2, g3, g4, g5] (some (((3 : Nat) : Int) + 1)) none) 2 .non)) (sA.free hp5)
          have s2b := s24.trans s4b
          refine ⟨_, rfl, p5, .str "a", g0, g1, .non, y, g4, g5, .str "a", _, _, _, _, _, _, rfl, SqL.of upd_same, .str "a" (by decide), (k0.up s2b), (k1.up s2b), .non, (dy.up s4b), (k4.up s2b), (k5.up s2b), (fun e => by rw [name_a] at e; cases e), (fun _ e => by rw [wf_3 hd] at e; cases e), fun H5 s5 => ?_⟩
          obtain ⟨hw1, hw2⟩ := hword (i := 3) (H' := H5) (by decide) (s2b.trans s5)
          refine ⟨_, rfl, _, rfl, wa, wvs, _, _, rfl, rfl, hw1, hw2, rfl, _, rfl, iteNY (congrArg V.str (by unfold toldT; rw [name_a, wf_3 hd]; rfl)) ?_⟩
          exact ⟨s4b.trans s5, _, _, rfl⟩
        · refine ⟨_, rfl, _, rfl, _, rfl, ga, _, rfl, hGc, fun p1 hp1 => ?_⟩
          refine ⟨_, rfl, (by show 1 ≤ sizeLine; decide), fun p2 hp2 => ?_⟩
          refine ⟨p1, p2, _, _, rfl, rfl, (Same.new' hp2) _ _ upd_same, upd_same, (by show _ ≤ sizeLine; exact Nat.le_trans (by decide : 4 + 1 ≤ 100) (by decide)), fun p3 hp3 => ?_⟩
          refine ⟨_, rfl, _, rfl, _, _, rfl, rfl, _, rfl, ga, _, rfl, (((Same.new' hp1).trans (Same.new' hp2)).trans (Same.new' hp3)).seq hGc, fun p4 hp4 => ?_⟩
          refine ⟨p3, p4, _, _, rfl, rfl, (Same.new' hp4) _ _ upd_same, upd_same, (by show _ ≤ sizeLine; exact Nat.le_trans (by decide : 4 + 1 + 1 ≤ 100) (by decide)), fun p5 hp5 => ?_⟩
          have sA := sj.trans (((Same.new' (o := _) hp1).trans (Same.new' (o := _) hp2)).trans ((Same.new' (o := _) hp3).trans (Same.new' (o := .lst (cutV [g0, g1, g2, g3, g4, g5] (some (((4 : Nat) : Int) + 1)) none)) hp4)))
          have sB := sA.mut (o := .lst (cutV [g0, g1, g2, g3, g4, g5] none (some ((4 : Nat) : Int)) ++ [y] ++ cutV [g0, g1, g2, g3, g4, g5] (some (((4 : Nat) : Int) + 1)) none)) (sA.free hp5)
          refine ⟨_, rfl, rfl, _, rfl, iteN (fun z => nomatch z) ?_⟩
          have s4b := sB
          have s2b := s24.trans s4b
          refine ⟨_, rfl, p5, .str "a", g0, g1, g2, g3, y, g5, .str "a", _, _, _, _, _, _, rfl, SqL.of upd_same, .str "a" (by decide), (k0.up s2b), (k1.up s2b), (k2.up s2b), (k3.up s2b), (dy.up s4b), (k5.up s2b), (fun e => by rw [name_a] at e; cases e), (fun _ e => by rw [wf_4 hd] at e; cases e), fun H5 s5 => ?_⟩
          obtain ⟨hw1, hw2⟩ := hword (i := 4) (H' := H5) (by decide) (s2b.trans s5)
          refine ⟨_, rfl, _, rfl, wa, wvs, _, _, rfl, rfl, hw1, hw2, rfl, _, rfl, iteNY (congrArg V.str (by unfold toldT; rw [name_a, wf_4 hd]; rfl)) ?_⟩
          exact ⟨s4b.trans s5, _, _, rfl⟩
        · refine ⟨_, rfl, _, rfl, _, rfl, ga, _, rfl, hGc, fun p1 hp1 => ?_⟩
          refine ⟨_, rfl, (by show 1 ≤ sizeLine; decide), fun p2 hp2 => ?_⟩
          refine ⟨p1, p2, _, _, rfl, rfl, (Same.new' hp2) _ _ upd_same, upd_same, (by show _ ≤ sizeLine; exact Nat.le_trans (by decide : 5 + 1 ≤ 100) (by decide)), fun p3 hp3 => ?_⟩
          refine ⟨_, rfl, _, rfl, _, _, rfl, rfl, _, rfl, ga, _, rfl, (((Same.new' hp1).trans (Same.new' hp2)).trans (Same.new' hp3)).seq hGc, fun p4 hp4 => ?_⟩
          refine ⟨p3, p4, _, _, rfl, rfl, (Same.new' hp4) _ _ upd_same, upd_same, (by show _ ≤ sizeLine; exact Nat.le_trans (by decide : 5 + 1 + 0 ≤ 100) (by decide)), fun p5 hp5 => ?_⟩
          have sA := sj.trans (((Same.new' (o := _) hp1).trans (Same.new' (o := _) hp2)).trans ((Same.new' (o := _) hp3).trans (Same.new' (o := .lst (cutV [g0, g1, g2, g3, g4, g5] (some (((5 : Nat) : Int) + 1)) none)) hp4)))
          have sB := sA.mut (o := .lst (cutV [g0, g1, g2, g3, g4, g5] none (some ((5 : Nat) : Int)) ++ [y] ++ cutV [g0, g1, g2, g3, g4, g5] (some (((5 : Nat) : Int) + 1)) none)) (sA.free hp5)
          refine ⟨_, rfl, rfl, _, rfl, iteN (fun z => nomatch z) ?_⟩
          have s4b := sB
          have s2b := s24.trans s4b
          refine ⟨_, rfl, p5, .str "a", g0, g1, g2, g3, g4, y, .str "a", _, _, _, _, _, _, rfl, SqL.of upd_same, .str "a" (by decide), (k0.up s2b), (k1.up s2b), (k2.up s2b), (k3.up s2b), (k4.up s2b), (dy.up s4b), (fun e => by rw [name_a] at e; cases e), (fun _ e => by rw [wf_5 hd] at e; cases e), fun H5 s5 => ?_⟩
          obtain ⟨hw1, hw2⟩ := hword (i := 5) (H' := H5) (by decide) (s2b.trans s5)
          refine ⟨_, rfl, _, rfl, wa, wvs, _, _, rfl, rfl, hw1, hw2, rfl, _, rfl, iteNY (congrArg V.str (by unfold toldT; rw [name_a, wf_5 hd]; rfl)) ?_⟩
          exact ⟨s4b.trans s5, _, _, rfl⟩
      · rintro σ Hc ⟨sj, o5, o6, rfl⟩
        exact ⟨sj, _, _, _, _, rfl⟩
    · rintro σ Hc ⟨sc, o3, o4, o5, o6, rfl⟩
      have s2c : Same H2 Hc := s24.trans sc
      clear hL hLA ll sc s24 s4 s3
      -- the two rows
      intro bv H6 s6 dB
      have dB6 := dB.up newOf_in
      clear dB
      have s26 : Same H2 H6 := s2c.trans s6
      cases dB6 with
      | @lst ba bvs _ hB hBA =>
      have lb : bvs.length = 2 := hBA.len
      refine ⟨ba, rfl, ⟨_, hB⟩, for_list (K := K) (a := ba) (xs := bvs) (fun _ σ Hc => Same H6 Hc ∧ ∃ o3 o4 o5 o6, σ = [some (.ref a), some (.ref wa), some (.ref ga), o3, o4, o5, o6, none, none, none])
        ⟨Same.refl H6, _, _, _, _, rfl⟩ (fun j σ Hc _ h => h.1.seq hB) ?_ ?_⟩
      · rintro j y σ Hd hj ⟨sj, p3, p4, p5, p6, rfl⟩
        have hjl : j < 2 := by
          have := (List.getElem?_eq_some_iff.mp hj).1
          omega
        obtain ⟨d, hdm, dy⟩ := hBA.at hj
        have dyd := dy.up sj
        have go : ∀ (rd : List PyData) (n : Int) (t : Str), Dq K Hd y (.list rd) → rd.length = 6 → rd[1]? = some (.int n) → wf6 rd = some t → t = (if n = 1 then "early" else "pauses") → tIfS (tTest (tOp rNe (tCall (spTold K) [] E0 (tCons (tC (.str "a")) (tCons (tVar 6) tNil))) (tOp (rIxL K) (tLit K (.list [.str "pauses", .str "early"]))
            (tCB (fun xs H Q => (∃ i, xs = [.int i] ∧ Q (.int i) H) ∨ ∃ k, xs = [.bl k] ∧ Q (.int (if k = true then 1 else 0)) H) (tCons (tOp rEq (tOp (rIxL K) (tVar 6) (tC (.int 1))) (tC (.int 1))) tNil)))))
            (tRet (tC (.bl false))) tNext { nx := fun σ Hc => Same H6 Hc ∧ ∃ o3 o4 o5 o6, σ = [some (.ref a), some (.ref wa), some (.ref ga), o3, o4, o5, o6, none, none, none], rt := Q } [some (.ref a), some (.ref wa), some (.ref ga), p3, p4, p5, some y, none, none, none] Hd := by
          intro rd n t dq hl h1 hw ht
          cases dq with
          | @lst ya yvs _ hY hYA =>
          have ly : yvs.length = 6 := hYA.len.trans hl
          match rd, hl, yvs, ly, hYA with
          | [e0, e1, e2, e3, e4, e5], _, [u0, u1, u2, u3, u4, u5], _, .cons x0 (.cons x1 (.cons x2 (.cons x3 (.cons x4 (.cons x5 .nil))))) =>
            cases h1
            have hw' : wrongField e0 (.int n) e2 e3 e4 e5 = some t := hw
            refine ⟨_, rfl, ya, .str "a", u0, u1, u2, u3, u4, u5, .str "a", _, _, _, _, _, _, rfl, hY, .str "a" (by decide), x0, x1, x2, x3, x4, x5, (fun e => by rw [name_a] at e; cases e), (fun _ e => by rw [hw'] at e; cases e), fun H7 s7 => ?_⟩
            intro lv H8 s8 dL
            have dL8 := dL.up newOf_in
            cases dL8 with
            | @lst la lvs _ hL hLA =>
            cases hLA with
            | @cons z0 _ _ _ q0 hLA =>
            cases hLA with
            | @cons z1 _ _ _ q1 hLA =>
              cases hLA
              cases q0
              cases q1
              obtain rfl := dq_int x1
              refine ⟨_, rfl, ya, _, 1, _, rfl, rfl, (s7.trans s8).seq hY, rfl, rfl, .inr ⟨_, rfl, ?_⟩⟩
              by_cases hn : n = 1
              · subst hn
                refine ⟨la, _, 1, _, rfl, rfl, hL, rfl, rfl, _, rfl, iteNY (congrArg V.str (by unfold toldT; rw [name_a, hw', ht]; rfl)) ?_⟩
                exact ⟨sj.trans (s7.trans s8), _, _, _, _, rfl⟩
              · have hne : decide (V.int n = V.int 1) = false := decide_eq_false fun z => hn (V.int.inj z)
                rw [hne]
                refine ⟨la, _, 0, _, rfl, rfl, hL, rfl, rfl, _, rfl, iteNY (congrArg V.str (by unfold toldT; rw [name_a, hw', ht, if_neg hn]; rfl)) ?_⟩
                exact ⟨sj.trans (s7.trans s8), _, _, _, _, rfl⟩
        match j, hjl with
        | 0, _ => cases hdm; exact go _ 2 "pauses" dyd rfl rfl (by decide +kernel) rfl
        | 1, _ => cases hdm; exact go _ 1 "early" dyd rfl rfl (by decide +kernel) rfl
      · rintro σ Hd ⟨sj, p3, p4, p5, p6, rfl⟩
        have s2d : Same H2 Hd := s26.trans sj
        clear hB hBA lb s26 sj s6 s2c
        -- for k in range(max(1, min(len(script), 6)))
        have hJ : ∀ L : Int, 1 ≤ (if (if (6 : Int) < L then 6 else L) > 1 then (if (6 : Int) < L then 6 else L) else 1) ∧ (if (if (6 : Int) < L then 6 else L) > 1 then (if (6 : Int) < L then 6 else L) else 1) ≤ 6 := fun L => by
          split <;> split <;> omega
        refine ⟨_, rfl, _, (ns.map V.int).length, rfl, .inl ⟨_, s2d.seq hS2, rfl⟩, _, _, rfl, _, _, rfl, _, rfl, (by have := (hJ ((ns.map V.int).length : Int)).1; omega), (by have := (hJ ((ns.map V.int).length : Int)).2; omega), for_range
          (fun _ σ Hc => Same Hd Hc ∧ ∃ o3 o4 o5 o6 o7 o8 o9, σ = [some (.ref a), some (.ref wa), some (.ref ga), o3, o4, o5, o6, o7, o8, o9]) ⟨Same.refl Hd, _, _, _, _, _, _, _, rfl⟩ ?_ ?_⟩
        · intro i σ He hi hPv
          obtain ⟨se, o3, o4, o5, o6, o7, o8, o9, rfl⟩ := hPv
          have hi6 : i < 6 := by
            have := (hJ ((ns.map V.int).length : Int)).2
            omega
          have s2e : Same H2 He := s2d.trans se
          refine ⟨_, rfl, _, rfl, a, ns, _, rfl, s2e.seq hS2, by omega, by omega, by omega, fun p c z hp hz0 hz1 => ?_⟩
          have sp1 : Same He (upd He p (poolO c z)) := Same.new' hp
          -- the names
          intro nv H9 s9 dN
          have dN9 := dN.up newOf_in
          clear dN
          have s29 : Same H2 H9 := (s2e.trans sp1).trans s9
          have hp9 : H9 p = some (poolO c z) := s9 p _ upd_same
          cases dN9 with
          | @lst na nvs _ hN hNA =>
          refine ⟨na, rfl, ⟨_, hN⟩, for_list (K := K) (a := na) (xs := nvs) (fun _ σ Hc => Same H9 Hc ∧ ∃ o5, σ = [some (.ref a), some (.ref wa), some (.ref ga), o3, o4, o5, o6, some (.int (0 + (i : Int))), some (.ref p), o9])
            ⟨Same.refl H9, _, rfl⟩ (fun j σ Hc _ h => h.1.seq hN) ?_ ?_⟩
          · rintro j y σ Hf hj ⟨sf, o5, rfl⟩
            obtain ⟨d, hdm, dy⟩ := hNA.at hj
            have hd : d ∈ namesD := List.mem_of_getElem? hdm
            obtain ⟨c1, c2, c3, c4, c5⟩ := names_ok hd
            refine ⟨_, rfl, (by show 1 ≤ sizeLine; decide), fun l1 hl1 => ⟨l1, 6, _, rfl, rfl, upd_same, by decide, by decide, (by show 1 * 6 ≤ sizeLine; decide), fun l2 hl2 => ?_⟩⟩
            have sl := (sf.trans (Same.new' (o := .lst [V.non]) hl1)).trans (Same.new' (o := .lst (List.replicate (6 : Int).toNat [V.non]).flatten) hl2)
            refine ⟨l2, y, .non, .non, .non, .non, .non, .non, d, .none, .none, .none, .none, .none, .none, rfl, SqL.of upd_same, dy.up sl, .non, .non, .non, .non, .non, .non, (fun _ => ⟨c2, c3, c4, c5⟩), (fun e => by rw [c1] at e; cases e), fun H10 s10 => ?_⟩
            refine ⟨_, rfl, y, d, rfl, (dy.up (sl.trans s10)).dp c3, c2, c3, c4, Nat.le_trans c5 (by decide), _, _, rfl, rfl, ?_, rfl, _, rfl, iteNY (congrArg V.str (by unfold toldT; rw [c1]; rfl)) ?_⟩
            · show (5 : Nat) + d.shown.length ≤ sizeLine
              exact Nat.le_trans (by omega : 5 + d.shown.length ≤ 2000) (by decide)
            · exact ⟨sl.trans s10, _, rfl⟩
          · rintro σ Hf ⟨sf, o5, rfl⟩
            have s2f : Same H2 Hf := s29.trans sf
            have hpf : Hf p = some (poolO c z) := sf p _ hp9
            refine ⟨_, rfl, ga, _, rfl, .inl (s2f.seq hG), fun b hb => ⟨_, _, rfl, ?_⟩⟩
            have nbp : b ≠ p := fun e => by rw [e, hpf] at hb; cases hb
            have sb : Same Hf (upd Hf b (.lst [g0, g1, g2, g3, g4, g5])) := Same.new' hb
            refine ⟨rfl, fun lv H11 s11 dL => ?_⟩
            have h2p : H2 p = none := s2e.free hp
            have h2b : H2 b = none := s2f.free hb
            have hb11 : H11 b = some (.lst [g0, g1, g2, g3, g4, g5]) := s11 b _ upd_same
            have hp11 : H11 p = some (poolO c z) := s11 p _ (sb p _ hpf)
            -- what is known and will not change
            obtain ⟨N7, hN7⟩ : ∃ N7 : Hp, N7 = hid b (hid p H11) := ⟨_, rfl⟩
            have n7p : N7 p = none := by rw [hN7]; unfold hid; rw [if_neg nbp.symm, if_pos rfl]
            have n7b : N7 b = none := by rw [hN7]; exact hid_p
            have n7in : Same N7 H11 := by rw [hN7]; exact hid_in.trans hid_in
            have to7 : ∀ {N : Hp}, Same N H11 → N p = none → N b = none → Same N N7 := fun {N} s np nb x o e => by
              rw [hN7]
              unfold hid
              rw [if_neg (fun z => by rw [z, nb] at e; cases e), if_neg (fun z => by rw [z, np] at e; cases e)]
              exact s x o e
            have s27 : Same H2 N7 := to7 ((s2f.trans sb).trans s11) h2p h2b
            have dL7 := dL.up (to7 newOf_in (newOf_at (sb p _ hpf)) (newOf_at upd_same))
            clear dL
            cases dL7 with
            | @lst la lvs _ hL hLA =>
            have ll : lvs.length = 6 := hLA.len
            refine ⟨la, lvs, rfl, n7in.seq hL, for_it walk_enum (fun m σ Hc => Same N7 Hc ∧ IsPool Hc p ∧ ∃ bvs ds fst o3 o4 o5, Hc b = some (.lst bvs) ∧ DqA K N7 bvs ds ∧ Inv6 m fst ds ∧ σ = [some (.ref a), some (.ref wa), some (.ref ga), o3, o4, o5, some (.ref b), some (.int (0 + (i : Int))), some (.ref p), some (firstV fst)])
              ⟨n7in, ⟨c, z, hp11, hz0, hz1⟩, [g0, g1, g2, g3, g4, g5], goodD, none, _, _, _, hb11, .cons (k0.up s27) (.cons (k1.up s27) (.cons (k2.up s27) (.cons (k3.up s27) (.cons (k4.up s27) (.cons (k5.up s27) .nil))))), rfl, rfl⟩ (fun m σ Hc _ h => h.1.seq hL) ?_ ?_⟩
            · rintro m x σ Hc Hc' hm ⟨sc, ⟨cc, zz, hpc, hzz0, hzz1⟩, bvs, ds, fst, q3, q4, q5, hbc, hbd, hinv, rfl⟩ ⟨T, x1, rv, rfl, hT, rfl, e1, e2⟩
              cases e1
              rw [ll] at hm
              obtain ⟨rd, hrd, dR⟩ := hLA.at e2
              obtain rfl := rows_at hm hrd
              cases dR with
              | @lst ra rvs _ hR hRA =>
              have lb : bvs.length = 6 := hbd.len.trans hinv.len
              obtain ⟨wne, wln⟩ := W_ne hm
              have lr : rvs.length = (W m).length := hRA.len
              have rne : rvs ≠ [] := fun e => wne (List.length_eq_zero_iff.mp (by rw [← lr, e]; rfl))
              have sT : Same N7 (upd Hc T (.tup [.int m, .ref ra])) := sc.trans (Same.new' hT)
              have hpT : (upd Hc T (.tup [.int m, .ref ra])) p = some (poolO cc zz) := (Same.new' hT) p _ hpc
              have hbT : (upd Hc T (.tup [.int m, .ref ra])) b = some (.lst bvs) := (Same.new' hT) b _ hbc
              refine ⟨T, _, rfl, SqT.of upd_same, rfl, _, _, rfl, _, _, rfl, rfl, ?_⟩
              refine ⟨_, rfl, p, 2, rfl, ⟨cc, zz, hpT, hzz0, hzz1⟩, by decide, by decide, fun dd c1 z1 hd0 hd1 hy0 hy1 => ⟨rfl, _, rfl, ?_⟩⟩
              have s1d := sT.mut (o := poolO c1 z1) n7p
              by_cases hdz : dd = 0
              · refine iteY (congrArg V.int hdz) ?_
                refine ⟨_, rfl, _, rfl, p, ra, rvs, rfl, ⟨c1, z1, upd_same, hy0, hy1⟩, s1d.seq hR, (fun o => (s1d.mut n7p).seq hR), rne, by omega, fun x c2 z2 hx hw0 hw1 => ?_⟩
                obtain ⟨d, hdW, dx⟩ := DqA.mem hRA hx
                have hbx : (upd (upd (upd Hc T (.tup [.int m, .ref ra])) p (poolO c1 z1)) p (poolO c2 z2)) b = some (.lst bvs) := by
                  rw [upd_ne nbp, upd_ne nbp]
                  exact hbT
                refine ⟨_, rfl, _, rfl, b, bvs, _, m, rfl, rfl, hbx, ixN_at (by omega), ?_⟩
                have s2d' := (s1d.mut (o := poolO c2 z2) n7p).mut (o := .lst (bvs.set m x)) n7b
                have hp2 : (upd (upd (upd (upd Hc T (.tup [.int m, .ref ra])) p (poolO c1 z1)) p (poolO c2 z2)) b (.lst (bvs.set m x))) p = some (poolO c2 z2) := by
                  rw [upd_ne nbp.symm, upd_same]
                obtain ⟨hw1', hw2'⟩ := hword (i := m) hm (s27.trans s2d')
                cases fst with
                | some j =>
                  -- a field was bent already
                  have fin : ∀ {σ : L2.St}, σ = [some (.ref a), some (.ref wa), some (.ref ga), some (.int m), some (.ref ra), q5, some (.ref b), some (.int (0 + (i : Int))), some (.ref p), some (firstV (some j))] → tAsg (tIf (tB (tIsN (tVar 9))) (tOp (rIxL K) (tVar 1) (tVar 3)) (tVar 9)) (gName 9)
                      { nx := fun σ Hc => Same N7 Hc ∧ IsPool Hc p ∧ ∃ bvs ds fst o3 o4 o5, Hc b = some (.lst bvs) ∧ DqA K N7 bvs ds ∧ Inv6 (m + 1) fst ds ∧ σ = [some (.ref a), some (.ref wa), some (.ref ga), o3, o4, o5, some (.ref b), some (.int (0 + (i : Int))), some (.ref p), some (firstV fst)], rt := Q } σ
                      (upd (upd (upd (upd Hc T (.tup [.int m, .ref ra])) p (poolO c1 z1)) p (poolO c2 z2)) b (.lst (bvs.set m x))) := by
                    rintro σ rfl
                    refine ⟨_, rfl, _, rfl, iteF ⟨_, rfl, ?_⟩⟩
                    exact ⟨s2d', ⟨c2, z2, hp2, hw0, hw1⟩, _, _, some j, _, _, _, upd_same, DqA.set dx m hbd, Inv6.hit1 hinv, rfl⟩
                  refine ⟨_, rfl, rfl, _, rfl, ?_⟩
                  by_cases hm3 : m = 3
                  · refine iteY (by rw [hm3]; rfl) ⟨_, rfl, _, rfl, iteF ?_⟩
                    exact fin rfl
                  · refine iteN (fun z => hm3 (by have := V.int.inj z; omega)) (iteF ?_)
                    exact fin rfl
                | none =>
                  have hh := Inv6.hit0 hinv hm hdW
                  refine ⟨_, rfl, rfl, _, rfl, ?_⟩
                  by_cases hm3 : m = 3
                  · refine iteY (by rw [hm3]; rfl) ⟨_, rfl, _, rfl, iteT ?_⟩
                    refine ⟨_, rfl, b, _, 2, 2, rfl, rfl, upd_same, (by rw [List.length_set, lb]; rfl), ?_⟩
                    rw [if_pos hm3] at hh
                    have s3d := s2d'.mut (o := .lst ((bvs.set m x).set 2 .non)) n7b
                    obtain ⟨hw1', hw2'⟩ := hword (i := m) hm (s27.trans s3d)
                    refine ⟨_, rfl, _, rfl, iteT ⟨_, rfl, _, rfl, wa, wvs, _, _, rfl, rfl, hw1', hw2', ?_⟩⟩
                    refine ⟨s3d, ⟨c2, z2, ?_, hw0, hw1⟩, _, _, some m, _, _, _, upd_same, DqA.set .non 2 (DqA.set dx m hbd), hh, rfl⟩
                    rw [upd_ne nbp.symm]
                    exact hp2
                  · rw [if_neg hm3] at hh
                    refine iteN (fun z => hm3 (by have := V.int.inj z; omega)) (iteF ?_)
                    refine ⟨_, rfl, _, rfl, iteT ⟨_, rfl, _, rfl, wa, wvs, _, _, rfl, rfl, hw1', hw2', ?_⟩⟩
                    exact ⟨s2d', ⟨c2, z2, hp2, hw0, hw1⟩, _, _, some m, _, _, _, upd_same, DqA.set dx m hbd, hh, rfl⟩
              · refine iteN (fun z => hdz (V.int.inj z)) ?_
                exact ⟨s1d, ⟨c1, z1, upd_same, hy0, hy1⟩, bvs, ds, fst, _, _, _, by rw [upd_ne nbp]; exact hbT, hbd, hinv.skip, rfl⟩
            · rintro σ Hc ⟨sc, ⟨cc, zz, hpc, hzz0, hzz1⟩, bvs, ds, fst, q3, q4, q5, hbc, hbd, hinv, rfl⟩
              rw [ll] at hinv
              have sd7 : Same Hd N7 := to7 (((((se.trans sp1).trans s9).trans sf).trans sb).trans s11) (se.free hp) ((((se.trans sp1).trans s9).trans sf).free hb)
              have lb : bvs.length = 6 := hbd.len.trans hinv.len
              cases fst with
              | none =>
                refine ⟨_, rfl, _, rfl, iteF (iteF ?_)⟩
                refine ⟨_, rfl, rfl, _, rfl, iteN (fun z => nomatch z) (iteF ?_)⟩
                exact ⟨sd7.trans sc, _, _, _, _, _, _, _, rfl⟩
              | some j =>
                have hwf := Inv6.fin hinv
                have told : ∀ (Hx : Hp) (Q' : VK), Same N7 Hx → Hx b = some (.lst bvs) → (∀ H', Same Hx H' → Q' (.str (word j)) H') → spTold K [.str "a", .ref b] Hx Q' E0 := by
                  intro Hx Q' sx hbx k
                  have hld := hinv.len
                  match ds, hld, bvs, lb, hbd, hbx, hwf with
                  | [e0, e1, e2, e3, e4, e5], _, [u0, u1, u2, u3, u4, u5], _, .cons x0 (.cons x1 (.cons x2 (.cons x3 (.cons x4 (.cons x5 .nil))))), hbx, hwf =>
                    have hw' : wrongField e0 e1 e2 e3 e4 e5 = some (word j) := hwf
                    refine ⟨b, .str "a", u0, u1, u2, u3, u4, u5, .str "a", _, _, _, _, _, _, rfl, SqL.of hbx, .str "a" (by decide), x0.up sx, x1.up sx, x2.up sx, x3.up sx, x4.up sx, x5.up sx, (fun e => by rw [name_a] at e; cases e), (fun _ e => by rw [hw'] at e; cases e), fun H' s' => ?_⟩
                    have e : toldT (.str "a") (wrongField e0 e1 e2 e3 e4 e5) = word j := by unfold toldT; rw [name_a, hw']; rfl
                    rw [e]
                    exact k H' s'
                have told' : ∀ (Hx : Hp) (Q' : VK), Same N7 Hx → Hx b = some (.lst bvs) → (∀ H', Same Hx H' → Q' (.str (word j)) H') → tCall (spTold K) [] E0 (tCons (tC (.str "a")) (tCons (tVar 6) tNil)) [some (.ref a), some (.ref wa), some (.ref ga), q3, q4, q5, some (.ref b), some (.int (0 + (i : Int))), some (.ref p), some (firstV (some j))] Hx Q' :=
                  fun Hx Q' sx hbx k => ⟨_, rfl, told Hx Q' sx hbx k⟩
                refine ⟨_, rfl, _, rfl, iteT ?_⟩
                refine ⟨_, rfl, (by show 1 ≤ sizeLine; decide), fun l hl => ⟨l, _, rfl, .inl (SqL.of upd_same), rfl, rfl, _, rfl, ?_⟩⟩
                have snl : Same Hc (upd Hc l (.lst [V.str (word j)])) := Same.new' hl
                by_cases hj : word j = "tries"
                · have e : (if true = true then !inV (V.str "tries") [V.str (word j)] else inV (V.str "tries") [V.str (word j)]) = false := by rw [hj]; decide +kernel
                  have e' : (if true = true then !inV (V.str "tries") [firstV (some j)] else inV (V.str "tries") [firstV (some j)]) = false := e
                  rw [e']
                  refine iteF (iteF ?_)
                  refine ⟨_, rfl, rfl, _, rfl, iteY (congrArg V.str hj) ?_⟩
                  show tCall (spTold K) [] E0 (tCons (tC (.str "a")) (tCons (tVar 6) tNil)) _ _ _
                  refine told' _ _ (sc.trans snl) (snl b _ hbc) fun H12 s12 => ?_
                  refine ⟨rfl, _, rfl, iteNY (congrArg V.str hj) ?_⟩
                  exact ⟨((sd7.trans sc).trans snl).trans s12, _, _, _, _, _, _, _, rfl⟩
                · have e : (if true = true then !inV (V.str "tries") [V.str (word j)] else inV (V.str "tries") [V.str (word j)]) = true := by
                    show (!((word j == ("tries" : Str)) || false)) = true
                    have z : (word j == ("tries" : Str)) = false := by simpa using hj
                    rw [z]
                    rfl
                  have e' : (if true = true then !inV (V.str "tries") [firstV (some j)] else inV (V.str "tries") [firstV (some j)]) = true := e
                  rw [e']
                  refine iteT ?_
                  show tCall (spTold K) [] E0 (tCons (tC (.str "a")) (tCons (tVar 6) tNil)) _ _ _
                  refine told' _ _ (sc.trans snl) (snl b _ hbc) fun H12 s12 => ?_
                  refine ⟨_, rfl, rfl, _, rfl, iteNY rfl ?_⟩
                  refine ⟨_, rfl, rfl, _, rfl, iteN (fun z => hj (V.str.inj z)) (iteF ?_)⟩
                  exact ⟨((sd7.trans sc).trans snl).trans s12, _, _, _, _, _, _, _, rfl⟩
        · rintro σ Hc ⟨_, o3, o4, o5, o6, o7, o8, o9, rfl⟩
          exact q Hc
end
end K03
namespace K03
open PySem PySem.Spec PyProof.Rows L2
/-! ### the head: facts by names, the run -/
abbrev gd (x : Str) (st : Stmt) : He.DefD := ⟨(x, none), x, x, defArgs st, defBody st, defScope st, [], []⟩
abbrev pd : He.DefD := ⟨("Policy", some "__init__"), "__init__", "Policy.__init__", defArgs s_Policy_init, defBody s_Policy_init, defScope s_Policy_init, [], [("tries", .int 1)]⟩
def fn : List He.DefD := [gd "is_integer" s_is_integer, gd "is_between" s_is_between, gd "is_name" s_is_name, gd "is_ending" s_is_ending, gd "are_pauses" s_are_pauses, gd "wrong_field" s_wrong_field, gd "_law_pool" s_law_pool, gd "_law_draw" s_law_draw, gd "_law_choose" s_law_choose, gd "_law_told" s_law_told, gd "_law_wrong" s_law_wrong, gd "law" s_law, pd]
def fa : List He.Fa := [.glo "is_integer", .glo "is_between", .glo "is_name", .glo "is_ending", .glo "are_pauses", .glo "wrong_field", .glo "_law_pool", .glo "_law_draw", .glo "_law_choose", .glo "_law_told", .glo "_law_wrong", .glo "law", .glo "Policy", .free "len", .free "isinstance", .free "int", .free "bool", .free "str", .free "all", .free "tuple", .free "enumerate", .free "list", .free "max", .free "min", .free "range", .free "repr", .int "MAX_LIMIT" 20, .int "MAX_TRIES" 3, .int "MAX_PAUSE" 8, .int "MAX_DELAY" 20, .int "MAX_LETTERS" 8, .str "LETTERS" "abcdefghijklmnopqrstuvwxyz", .str "GO" "go", .str "STOP" "stop", .str "DEADLINE" "deadline", .cls "Policy", .mkr "Policy", .noat "Policy" "own_name", .noat "Policy" "own_limit", .noat "Policy" "own_tries", .noat "Policy" "own_pauses", .noat "Policy" "own_early", .noat "Policy" "own_lossy", .noat "Policy" "own_ending", .exm "InvalidPolicy" "InvalidName" false]
def xN : MCH.XD := ⟨"InvalidName", "value", inClass (top 2) 0⟩
def xP : MCH.XD := ⟨"InvalidPolicy", "field", inClass (top 3) 0⟩
abbrev R : PySem.W.OpenRow := PySem.W.OpenLaw.row PySem.Challenge.rw_mostcalls_k03_policies_refused
abbrev ex0 : PySem.W.Frag → Bool := fun _ => true
abbrev hk : PySem.W.Hook := MCH.hookM 6 R.prog fa fn [xN, xP] ex0
def ob (s : PySem.W.SharedT) : MCH.AlM := MCH.obsM 6 R.prog fa fn [xN, xP] ex0 (HandSHeadRun.getT s)
theorem ob_eq (s : PySem.W.SharedT) : ob s = hk.obs s.abs := MCH.obsM_eq (HandSHeadRun.getT_eq s)
def names : List Str := ["_wall", "InvalidName", "InvalidPolicy", "LETTERS", "MAX_LETTERS", "is_integer", "is_between", "is_name", "MAX_LIMIT", "MAX_TRIES", "MAX_PAUSE", "MAX_DELAY", "FIELDS", "GO", "STOP", "DEADLINE", "is_ending", "are_pauses", "wrong_field", "Policy", "_law_pool", "_law_draw", "_law_choose", "_law_told", "_law_wrong"]
theorem run (w : World) : HandSHeadRun.RunEq R (PySem.W.view R.prog [29]) hk ob 6000 names w := by
  intro os
  kernel_rfl
theorem facts {w : World} {K : PySem.W.Frag} {h : Heap} {mg : Str → Option Value} {f : Addr} (X : K.In h) (G : h.Ns mainGlobals mg) (hfa : mg ("law" : Str) = some (.ref f)) (c : MCH.SaysM R.prog fa fn [xN, xP] ex0 K) :
    ∃ fd : FuncData, (∀ (s : Shared) (v : Value), BindsTo s fd ⟨[v], []⟩ [("_law_script", v)]) ∧ ∀ base : Heap, K.In base → base.Ns mainGlobals mg → FnG R.prog w K mg base CX0 9 f fd ["_law_script"] (spLaw K) := by
  obtain ⟨e0, F0⟩ := c.d.def_ 0 (d := gd "is_integer" s_is_integer) rfl
  obtain ⟨e1, F1⟩ := c.d.def_ 1 (d := gd "is_between" s_is_between) rfl
  obtain ⟨e2, F2⟩ := c.d.def_ 2 (d := gd "is_name" s_is_name) rfl
  obtain ⟨e3, F3⟩ := c.d.def_ 3 (d := gd "is_ending" s_is_ending) rfl
  obtain ⟨e4, F4⟩ := c.d.def_ 4 (d := gd "are_pauses" s_are_pauses) rfl
  obtain ⟨e5, F5⟩ := c.d.def_ 5 (d := gd "wrong_field" s_wrong_field) rfl
  obtain ⟨e6, F6⟩ := c.d.def_ 6 (d := gd "_law_pool" s_law_pool) rfl
  obtain ⟨e7, F7⟩ := c.d.def_ 7 (d := gd "_law_draw" s_law_draw) rfl
  obtain ⟨e8, F8⟩ := c.d.def_ 8 (d := gd "_law_choose" s_law_choose) rfl
  obtain ⟨e9, F9⟩ := c.d.def_ 9 (d := gd "_law_told" s_law_told) rfl
  obtain ⟨e10, F10⟩ := c.d.def_ 10 (d := gd "_law_wrong" s_law_wrong) rfl
  obtain ⟨e11, F11⟩ := c.d.def_ 11 (d := gd "law" s_law) rfl
  obtain ⟨eI, FI⟩ := c.d.def_ 12 (d := pd) rfl
  have e := hfa.symm.trans (He.glo_ok X G (c.d.fact 11 (f := .glo "law") rfl))
  cases e
  have B : Blt mg := { isi := (He.free_ok X G (c.d.fact 14 (f := .free "isinstance") rfl)), int := (He.free_ok X G (c.d.fact 15 (f := .free "int") rfl)), bool := (He.free_ok X G (c.d.fact 16 (f := .free "bool") rfl)), str := (He.free_ok X G (c.d.fact 17 (f := .free "str") rfl)), tuple := (He.free_ok X G (c.d.fact 19 (f := .free "tuple") rfl)), len := (He.free_ok X G (c.d.fact 13 (f := .free "len") rfl)), all := (He.free_ok X G (c.d.fact 18 (f := .free "all") rfl)), mxl := (He.int_ok X G (c.d.fact 30 (f := .int "MAX_LETTERS" 8) rfl)), mxp := (He.int_ok X G (c.d.fact 28 (f := .int "MAX_PAUSE" 8) rfl)), mxt := (He.int_ok X G (c.d.fact 27 (f := .int "MAX_TRIES" 3) rfl)), mxm := (He.int_ok X G (c.d.fact 26 (f := .int "MAX_LIMIT" 20) rfl)), mxd := (He.int_ok X G (c.d.fact 29 (f := .int "MAX_DELAY" 20) rfl)), go := (He.str_ok X G (c.d.fact 32 (f := .str "GO" "go") rfl)), stop := (He.str_ok X G (c.d.fact 33 (f := .str "STOP" "stop") rfl)), dead := (He.str_ok X G (c.d.fact 34 (f := .str "DEADLINE" "deadline") rfl)), let_ := (He.str_ok X G (c.d.fact 31 (f := .str "LETTERS" "abcdefghijklmnopqrstuvwxyz") rfl)) }
  have M : Blt2 mg := { range := (He.free_ok X G (c.d.fact 24 (f := .free "range") rfl)), enum := (He.free_ok X G (c.d.fact 20 (f := .free "enumerate") rfl)), max := (He.free_ok X G (c.d.fact 22 (f := .free "max") rfl)), min := (He.free_ok X G (c.d.fact 23 (f := .free "min") rfl)), repr := (He.free_ok X G (c.d.fact 25 (f := .free "repr") rfl)), list := (He.free_ok X G (c.d.fact 21 (f := .free "list") rfl)) }
  have htop : (R.prog.main.scope.names.lookup ("super" : Str)).isSome = false := by decide +kernel
  obtain ⟨xn1, xn2⟩ := c.x xN (by simp)
  obtain ⟨xp1, xp2⟩ := c.x xP (by simp)
  have TN := MCH.xB_ok X G xn1 xn2 PySem.MCX.fok_value htop rfl rfl rfl rfl
  have TP := MCH.xB_ok X G xp1 xp2 PySem.MCX.fok_field htop rfl rfl rfl rfl
  have TC : PolC K (He.ga K "Policy") := ⟨He.cls_ok (c.d.fact 35 (f := .cls "Policy") rfl), He.noat_ok (c.d.fact 37 (f := .noat "Policy" "own_name") rfl), He.noat_ok (c.d.fact 38 (f := .noat "Policy" "own_limit") rfl), He.noat_ok (c.d.fact 39 (f := .noat "Policy" "own_tries") rfl), He.noat_ok (c.d.fact 40 (f := .noat "Policy" "own_pauses") rfl), He.noat_ok (c.d.fact 41 (f := .noat "Policy" "own_early") rfl), He.noat_ok (c.d.fact 42 (f := .noat "Policy" "own_lossy") rfl), He.noat_ok (c.d.fact 43 (f := .noat "Policy" "own_ending") rfl)⟩
  have MI := He.mkr_ok (c.d.fact 36 (f := .mkr "Policy") rfl)
  have hPN := He.exm_ok (c.d.fact 44 (f := .exm "InvalidPolicy" "InvalidName" false) rfl)
  have b := FunD.bindsA (ps := ["_law_script"]) F11 fun _ _ _ _ _ _ us hl => match us, hl with | [_], _ => rfl
  refine ⟨e11, fun s v => b s [v] rfl, fun base _ _ => ?_⟩
  have W5 := ok_is_name (P := R.prog) (w := w) (base := base) F2 B
  have W6 := ok_wrong_field (P := R.prog) (w := w) (base := base) F5 F0 (He.glo_ok X G (c.d.fact 0 (f := .glo "is_integer") rfl)) F1 (He.glo_ok X G (c.d.fact 1 (f := .glo "is_between") rfl)) F4 (He.glo_ok X G (c.d.fact 4 (f := .glo "are_pauses") rfl)) F3 (He.glo_ok X G (c.d.fact 3 (f := .glo "is_ending") rfl)) B
  have WI := ok_Policy_init (w := w) (base := base) FI TN TP TC W5 (He.glo_ok X G (c.d.fact 2 (f := .glo "is_name") rfl)) F2 W6 (He.glo_ok X G (c.d.fact 5 (f := .glo "wrong_field") rfl)) F5
  have WT := ok_law_told F9 (by simp [pd, He.DefD.kws]) FI MI (He.glo_ok X G (c.d.fact 12 (f := .glo "Policy") rfl)) WI TN TP hPN M.repr
  exact ok_law F11 B M WT (He.glo_ok X G (c.d.fact 9 (f := .glo "_law_told") rfl)) F9 F10 (He.glo_ok X G (c.d.fact 10 (f := .glo "_law_wrong") rfl)) F6 (He.glo_ok X G (c.d.fact 6 (f := .glo "_law_pool") rfl)) F7 (He.glo_ok X G (c.d.fact 7 (f := .glo "_law_draw") rfl)) F8 (He.glo_ok X G (c.d.fact 8 (f := .glo "_law_choose") rfl))
end K03
open PySem PySem.W PySem.Calls PyProof.Rows
set_option maxRecDepth 100000 in
set_option maxHeartbeats 0 in
theorem PySem.Challenge.cw_mostcalls_k03_policies_refused_holds : PySem.Challenge.rw_mostcalls_k03_policies_refused.Holds := by
  w_on; o_law
  refine HandSHeadRun.head_any (r := OpenLaw.row PySem.Challenge.rw_mostcalls_k03_policies_refused) (q := view (OpenLaw.row PySem.Challenge.rw_mostcalls_k03_policies_refused).prog [29]) (H := K03.hk) (ob := K03.ob) (M := 6000) (loose := K03.names) (d := HandSHeadRun.topDef (OpenLaw.row PySem.Challenge.rw_mostcalls_k03_policies_refused).prog 29) (kwd := []) K03.ob_eq
    (by kernel_rfl) (fun s => by kernel_rfl) K03.run (by kernel_rfl) (by kernel_rfl) (by kernel_rfl) (by rfl) (by first | assumption | decide +kernel) (by decide +kernel) ⟨rfl, rfl, rfl, rfl, rfl, by decide +kernel⟩ ?hw ?hc
  case hw => w_witness2
  case hc =>
    refine L2.walk_ofG (l := PySem.Challenge.rw_mostcalls_k03_policies_refused) (n := 63) (k := 9) (x := "_law_script") (CX := fun _ => L2.CX0) rfl (by decide) (by kernel_rfl) ⟨rfl, by decide, by decide⟩ ?F (fun _ _ _ _ _ z => z)
    intro w mg fa h Y G hmg0
    obtain ⟨K, KX, c⟩ := Y
    have hmg : mg ("law" : PySem.Str) = some (.ref fa) := by
      have e : (HandSHeadRun.topDef (OpenLaw.row PySem.Challenge.rw_mostcalls_k03_policies_refused).prog 29).name = ("law" : PySem.Str) := by kernel_rfl
      rw [← e]
      exact hmg0
    obtain ⟨fd, hb, hF⟩ := K03.facts (w := w) KX G hmg c
    exact ⟨K, fd, K03.spLaw K, KX, hb, fun H a ns hl _ hS => ⟨a, ns, rfl, hS, hl, fun _ => rfl⟩, hF⟩
#print axioms PySem.Challenge.cw_mostcalls_k03_policies_refused_holds
