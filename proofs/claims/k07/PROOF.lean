import PyProof.Rows.All
import Wide.All
import OpenK.AllK
import Wide.FinOn
import KE.KExcSuper
import HandS.Base
import HandS.Call
import HandS.Exc
import HandS.HeadWalk
import HandS.TryMany
import HandS.ExcField
import KE.KStateDown
import HandS.Words
import HandS.HeadHook1
import HandS.HeadHook2
import HandS.List
import HandS.Comp
import HandS.Iter
import HandS.Walk
import HandS.IsInst
import HandS.Evl
import PyProof.ReprReads
import HandS.Ends
import HandS.WordsExc
import HandS.Defaults
import HandS.HeadEnd
import PyProof.ReprRoads
import HandS.NoneIn
import PyProof.RulesMatch
import PyProof.RulesMatchSeq
import PyProof.Rows.MatchSeqLen
import HandS.ExcOwn
import HandS.MakeKwOnly
import HandS.Dict
import HandS.Zip0
import HandS.Zip
import HandS.SortKw
import KE.KDictZip
import KE.GoesEnumKw
import HandS.OwnEq
import HandS.DictEq
import PyProof.InstEq
import HandS.DeepEq
import HandS.Property
import PyProof.ListMulRoad
import PyProof.FactsAll.tuple_2
import HandS.TupMul
import KE.KParD
import HandS.More
import HandS.Star
import HandS.Lambda
import HandS.EndTab
import KE.KLam
import HandS.HeadHook4
import KE.KExcInit
import HandS.ExcInit
import KE.KIsAll
import KE.KExcIs
import HandS.ExcValue
import HandS.ExcIs
import HandS.HeadHook3
import HandS.DictComp
import HandS.Text
import HandS.Steps
import HandS.Flow
import PyProof.ReprLen
import PyProof.Rows.RegFStrParts
import HandS.Conv
import HandS.Head0
import HandS.Head1
import HandS.Head2
import PySem.Challenge.RW_mostcalls_k07_parts_refused
set_option Elab.async false
set_option linter.all false
set_option maxRecDepth 100000
set_option maxHeartbeats 4000000
namespace PySem
namespace MCX
open PySem.W PySem.Calls PyProof.Rows PySem.HandSPX
/-! ### an own error whose __init__ says super().__init__(f); self.f = f -/
def iA (f : Str) (p1 p2 : Pos) : Arguments := { posonlyargs := [], args := [{ arg := "self", annotation := none, pos := p1 }, { arg := f, annotation := none, pos := p2 }], vararg := none, kwonlyargs := [], kw_defaults := [], kwarg := none, defaults := [] }
def iB (f : Str) (q1 q2 q3 q4 q5 q6 q7 q8 q9 q10 : Pos) : List Stmt := [.Expr (.Call (.Attribute (.Call (.Name "super" q1) [] [] q2) "__init__" q3) [.Name f q4] [] q5) q6, .Assign [.Attribute (.Name "self" q7) f q8] (.Name f q9) q10]
def iS (f : Str) : Scope := { kind := .function, names := [(PySem.Str.ofString "self", .local), (f, .local), (PySem.Str.ofString "__class__", .free), (PySem.Str.ofString "super", .globalImplicit)], isGenerator := false, isCoroutine := false, more := [] }
structure FOk (f : Str) : Prop where
  dbg : (f == ("__debug__" : Str)) = false
  lf : (iS f).names.lookup f = some .local
  lc : (iS f).names.lookup ("__class__" : Str) = some .free
  ls : (iS f).names.lookup ("super" : Str) = some .globalImplicit
  ns : (("self" : Str) == f) = false
  bd : ∀ (qual : Str) (p1 p2 : Pos) (body : List Stmt) (doc pm : Value) (an : Option Addr) (cd ct : Value) (cc : Addr) (x v : Value), bindArgs (ksFn "__init__" qual (iA f p1 p2) body (iS f) .none .none doc pm an cd ct cc) ⟨[x, v], []⟩ = pure ([(("self" : Str), x), (f, v)] : List (Str × Value))
theorem fok_value : FOk "value" := ⟨by decide, rfl, rfl, rfl, by decide, fun _ _ _ _ _ _ _ _ _ _ _ _ => rfl⟩
theorem fok_field : FOk "field" := ⟨by decide, rfl, rfl, rfl, by decide, fun _ _ _ _ _ _ _ _ _ _ _ _ => rfl⟩
/-- what the written part says of the class at C and of its __init__ at fI -/
structure XTxt (prog : Program) (K : Frag) (mg : Str → Option Value) (nm f : Str) (C fI : Addr) : Prop where
  gC : mg nm = some (.ref C)
  fok : FOk f
  cls : ∃ nm q N bs bm sn sub ab col dd k0 k1 k2 k3 k5, K.lookup C = some (excClassObj nm q C N bs bm true sn sub ab col dd k0 k1 k2 k3 k5 "ValueError.__new__") ∧ refsVE bm = true
  sa : findIn K (.ref C) "__setattr__" = some (some (.builtin "object.__setattr__"))
  ga : findIn K (.ref C) "__getattribute__" = some (some (.builtin "BaseException.__getattribute__"))
  gg : findIn K (.ref C) "__getattr__" = some none
  noF : findIn K (.ref C) f = some none
  iC : findIn K (.ref C) "__init__" = some (some (.ref fI))
  tC : typeIn K (.ref fI) = some (.type "function")
  kC : keepIn K (.ref C) = true
  exC : subIn K (.ref C) (.type "BaseException") = some true
  veC : subIn K (.ref C) (.type "ValueError") = some true
  tyC : typeIn K (.ref C) = some (.type "type")
  hdC : hasDictIn K C = true
  te : exmOne K (.ref C) (.ref C) = some true
  mC : mroIn K C (.ref C) = some true
  su : ks_superIn K C C "__init__" = some (some (.builtin "ValueError.__init__"))
  tp : nsIn K cStatics "thirdparty.any" = some none
  noS : mg "super" = none
  top : (prog.main.scope.names.lookup ("super" : Str)).isSome = false
  fn : ∃ (qual : Str) (oc : Value) (od : Option Addr) (doc pm : Value) (an : Option Addr) (cda : Addr) (ct : Value) (cc : Addr) (osl : Array (Option Value)) (p1 p2 q1 q2 q3 q4 q5 q6 q7 q8 q9 q10 : Pos),
    K.lookup fI = some ⟨oc, od, .func (ksFn "__init__" qual (iA f p1 p2) (iB f q1 q2 q3 q4 q5 q6 q7 q8 q9 q10) (iS f) .none .none doc pm an (.ref cda) ct cc), osl⟩ ∧ codeIn K (.ref cda) qual = true ∧
    (∃ ccl cdd vs ccs file tf, K.lookup cda = some ⟨ccl, cdd, .fields vs, ccs⟩ ∧ vs[2]? = some (.str file tf) ∧ ((prog.main.file : Str) == file) = true) ∧
    (∃ cl cld csl, K.lookup cc = some ⟨cl, cld, .cell (some (.ref C)), csl⟩) ∧ (q3.endLine == q5.line) = true
/-- what __init__ leaves of a fresh exception at x -/
structure InitEnd (f : Str) (h h' : Heap) (x C dx t1 : Addr) (v : Value) : Prop where
  keep : ∀ b o, b ≠ x → h.get? b = some o → h'.get? b = some o
  obj : h'.get? x = some { cls := .ref C, dict := some dx, data := .fields #[.ref t1, .none, .none, .none, .bool false, .none] }
  dbig : h.objs.size ≤ dx
  dne : dx ≠ x
  ns : h'.Ns1 dx (fun y => if y = f then some v else none)
section
variable {prog : Program} {w : World} {A : Around} {E : Value → Shared → Prop} {R : Result → Shared → Prop} {s : Shared} {K : Frag} {mg : Str → Option Value} {nm f : Str} {C fI : Addr}
theorem sup_init (T : XTxt prog K mg nm f C fI) {x t0 : Addr} {v : Value} (X : K.In s.heap) (hlim : s.heap.NoLimit) (hx : s.heap.get? x = some (excO C t0)) (hnx : K.lookup x = none) (hroom : A.depth < recursionLimit)
    (hG : s.heap.Ns mainGlobals mg) (hB : ∃ mb, s.heap.Ns builtinsNs mb ∧ ∀ x : Str, x ≠ "__name__" → mb x = bootBuiltins x)
    (hq : ∀ h' tk dx t1, InitEnd f s.heap h' x C dx t1 v → R (.ok (.ret .none)) { s with heap := h', toks := tk }) :
    codeAny (model prog w) A (.call (.ref fI) ⟨[.ref x, v], []⟩) R s := by
  obtain ⟨qual, oc, od, doc, pm, an, cda, ct, cc, osl, p1, p2, q1, q2, q3, q4, q5, q6, q7, q8, q9, q10, hl, hcd, ⟨ccl, cdd, vs, ccs, file, tf, hcode, hvs, hfile⟩, ⟨cl, cld, csl, hcell⟩, hpos⟩ := T.fn
  obtain ⟨cnm, q, N, bs, bm, sn, sub, ab, col, dd, k0, k1, k2, k3, k5, hC, hbm⟩ := T.cls
  obtain ⟨mb, hBn, hBv⟩ := hB
  have hcl : clsIn K C = some { name := cnm, bases := bs, mro := .ref C :: bm, ns := N, qualname := q, hasDict := true, slotNames := sn, subclasses := sub, abstract := ab, collection := col, hasDel := false } := by unfold clsIn; rw [hC] <;> rfl
  obtain ⟨hp, g, d, tk, os⟩ := s
  refine ks_codeAny_call_defAt (fd := ksFn "__init__" qual (iA f p1 p2) (iB f q1 q2 q3 q4 q5 q6 q7 q8 q9 q10) (iS f) .none .none doc pm an (.ref cda) ct cc) (body := iB f q1 q2 q3 q4 q5 q6 q7 q8 q9 q10) (binds := [("self", .ref x), (f, v)]) hroom (X _ _ hl) rfl hlim (codeRec_of X hcd) rfl (BindsTo.of_eq (T.fok.bd _ _ _ _ _ _ _ _ _ _ _ _)) ?hce ?hlo (fun h₁ hns hk₁ => ?_) rfl rfl rfl
  case hce => intro y hy; simp only [iS, List.mem_cons, List.not_mem_nil, or_false] at hy; rcases hy with rfl | rfl | rfl | rfl <;> simp
  case hlo =>
    intro y hy
    simp only [List.mem_cons, List.not_mem_nil, or_false] at hy
    rcases hy with rfl | rfl
    · rfl
    · exact T.fok.lf
  have X₁ : K.In h₁ := X.keeps hk₁
  have hx₁ := hk₁ _ _ hx
  have mv : (fun y => ([("self", Value.ref x), (f, v)] : List (Str × Value)).reverse.lookup y) f = some v := by simp [List.lookup]
  have mself : (fun y => ([("self", Value.ref x), (f, v)] : List (Str × Value)).reverse.lookup y) "self" = some (.ref x) := by simp [List.lookup, T.fok.ns]
  have hns' : Heap.Ns h₁ hp.objs.size (fun y => ([("self", Value.ref x), (f, v)] : List (Str × Value)).reverse.lookup y) := hns
  have hcr := X₁ _ _ hC
  have I₁ : InstAt h₁ x (excO C t0) C none := ⟨hx₁, rfl, rfl, trivial⟩
  show _root_.PySem.wpAt _ _ _ (execs (iB f q1 q2 q3 q4 q5 q6 q7 q8 q9 q10) (ksEnv qual (iS f) hp.objs.size fI (.ref cda) cc)) _ _ _
  have hmc : ∀ ov, methodCall (.Call (.Name "super" q1) [] [] q2) "__init__" q3 q5 (ksEnv qual (iS f) hp.objs.size fI (.ref cda) cc) ov 1 (backTo q5 (starEach [.Name f q4] (ksEnv qual (iS f) hp.objs.size fI (.ref cda) cc))) [] = (do
      let (ff, first) ← holding [ov] (getMethod ov "__init__" (L2.plainOf (.Call (.Name "super" q1) [] [] q2) (ksEnv qual (iS f) hp.objs.size fI (.ref cda) cc)))
      callWith q5 ff first (backTo q5 (starEach [.Name f q4] (ksEnv qual (iS f) hp.objs.size fI (.ref cda) cc))) []) := fun ov => L2.mcall_line rfl hpos
  refine ks_wpAt_execs_cons (ks_wpAt_Expr_any (ks_wpAt_MethodCall (pl := L2.plainOf (.Call (.Name "super" q1) [] [] q2) (ksEnv qual (iS f) hp.objs.size fI (.ref cda) cc)) ?_ ?he))
  case he =>
    show (do
      let ov ← attributeBase (.Call (.Name "super" q1) [] [] q2) "__init__" (ksEnv qual (iS f) hp.objs.size fI (.ref cda) cc) (eval (.Call (.Name "super" q1) [] [] q2) (ksEnv qual (iS f) hp.objs.size fI (.ref cda) cc))
      standAt q3.atName
      methodCall (.Call (.Name "super" q1) [] [] q2) "__init__" q3 q5 (ksEnv qual (iS f) hp.objs.size fI (.ref cda) cc) ov 1 (backTo q5 (starEach [.Name f q4] (ksEnv qual (iS f) hp.objs.size fI (.ref cda) cc))) []) = _
    simp only [hmc]
  refine ks_wpAt_super_base (env := ksEnv qual (iS f) hp.objs.size fI (.ref cda) cc) (f := fI) (cc := cda) T.fok.ls T.fok.lc (by decide) rfl (X₁ _ _ hl) rfl rfl rfl (X₁ _ _ hcode) rfl hvs hfile T.top ?_
  refine ks_loadName_global rfl T.fok.ls (loadGlobal_builtin (env := ksEnv qual (iS f) hp.objs.size fI (.ref cda) cc) (hG.keeps hk₁) T.noS (hBn.keeps hk₁) ((hBv _ (by decide +kernel)).trans (by first | rfl | decide +kernel | kernel_rfl)) ⟨rfl, ?_⟩)
  refine wpAny_loadName_free rfl T.fok.lc rfl ⟨_, X₁ _ _ hcell, rfl⟩ ?_
  refine wpAny_loadName_local rfl rfl hns' mself ?_
  refine ks_wpAny_isType_cls (X₁ _ _ hC) rfl ⟨rfl, ?_⟩
  refine ks_wpAny_call_super (X₁ _ _ hC) rfl hx₁ rfl (fun c e => by cases e) (looks_mroIn X₁ T.mC) (fun h₂ e₂ k₂ => ?_)
  have X₂ : K.In h₂ := X₁.keeps k₂
  have hx₂ := k₂ _ _ hx₁
  have I₂ : InstAt h₂ x (excO C t0) C none := ⟨hx₂, rfl, rfl, trivial⟩
  have hns₂ := hns'.keeps k₂
  have hal : alongIn K "__init__" (((Value.ref C :: bm).dropWhile (· != .ref C)).drop 1) = some (some (.builtin "ValueError.__init__")) := by
    have z := T.su
    unfold ks_superIn at z
    rw [hcl] at z
    exact z
  refine kxs_getMethod kxs_ValueError (so := h₁.objs.size) (D := C) (x := x) (C := C) (l₀ := .ref C :: bm) (K := K) e₂ (looks_opaque X₂ T.tp) (fun A Q E s k q => wpAny_bind ((looks_clsIn X₂ hcl) A _ E s k (wpAny_pure q))) rfl X₂ hal (I₂.type.andThen (looks_subIn X₂ T.veC)) (ks_ne X₂ I₂ hcl) (by decide) ?_
  have k₃ : ∀ b o, h₂.get? b = some o → (h₂.push (kxs_mw "ValueError.__init__" x)).get? b = some o := fun b o e => Heap.get?_push_of_some _ e
  have hmw : (h₂.push (kxs_mw "ValueError.__init__" x)).get? h₂.objs.size = some (kxs_mw "ValueError.__init__" x) := Heap.get?_push_at rfl rfl
  refine kxs_callWith (i := "ValueError.__init__") (x := x) rfl (evalArgs_plain ?_)
  refine spliced_cons (wpAny_Name (wpAny_loadName_local rfl T.fok.lf (hns₂.keeps k₃) mv ?_) T.fok.dbg)
  refine spliced_nil ⟨hmw, ?_⟩
  have FB := F.excBase_ValueError
  refine wpAny_call (codeAny_of_tree ?_)
  show wpAny _ _ (callAny (.ref h₂.objs.size) ⟨[v], []⟩) _ _ _
  simp only [callAny]
  refine wpAny_bind (wpAny_load hmw ?_)
  simp only [kxs_mw, show (Value.type "method-wrapper" == Value.type "method" || Value.type "method-wrapper" == Value.type "builtin_function_or_method" || Value.type "method-wrapper" == Value.type "method-wrapper") = true by decide, if_true]
  refine KFB.if_so (by decide) ?_
  refine wpAny_bind (check_bound_init FB.toExcCallFacts (k₃ _ _ (X₂ _ _ hC)) (k₃ _ _ hx₂) rfl ?_)
  refine wpAny_bind (wpAny_pure (wpAny_pure ?_))
  refine ⟨plainId_quiet FB.init.plain _, codeAny_builtin FB.initEntry ?_⟩
  refine exc_init_tree (cls := .ref C) (t0 := t0) (dv := none) (c2 := .none) (c3 := .none) (b4 := .bool false) (k₃ _ _ hx₂) (by rw [sizeLine_eq]; exact (by decide : 1 ≤ 16777216)) fun h₄ k₄ hx₄ _ => ?_
  have hxL : hp.objs.size ≠ x := Nat.ne_of_gt (Heap.lt_size hx)
  have X₄ : K.In h₄ := fun a o e => k₄ a o (fun z => by rw [z, hnx] at e; cases e) (k₃ a o (X₂ a o e))
  have hns₄ : Heap.Ns h₄ hp.objs.size (fun y => ([("self", Value.ref x), (f, v)] : List (Str × Value)).reverse.lookup y) := by
    obtain ⟨oL, es, ep, hL, r⟩ := hns₂.keeps k₃
    exact ⟨oL, es, ep, k₄ _ _ hxL hL, r⟩
  show _root_.PySem.wpAt _ _ _ (execs _ _) _ _ _
  refine ks_wpAt_execs_cons (ks_wpAt_Assign_Attr (wpAt_of_wpAny ?_))
  refine wpAny_Name (wpAny_loadName_local rfl T.fok.lf hns₄ mv ?_) T.fok.dbg
  refine wpAny_Name (wpAny_loadName_local rfl rfl hns₄ mself ?_) (by decide)
  refine set_plain X₄ (od := none) ⟨hx₄, rfl, rfl, trivial⟩ T.sa ?_
  refine exc_osa X₄ hx₄ hcl (show refsVE (.ref C :: bm) = true from hbm) rfl T.noF (fun h₅ tk₅ dx k₅ dn dne hx₅ hn₅ => ?_)
  show _root_.PySem.wpAt _ _ _ (execs _ _) _ _ _
  have hle : hp.objs.size ≤ h₄.objs.size := Nat.le_of_lt hns₄.lt
  exact wpAt_of_wpAny (wpAny_execs_nil (hq h₅ tk₅ dx _ ⟨fun b o hb e => k₅ b o hb (k₄ b o hb (k₃ b o (k₂ b o (hk₁ b o e)))), hx₅, Nat.le_trans hle dn, dne, hn₅⟩))
end
end MCX
end PySem
namespace L2
open PySem PySem.Spec PyProof.Rows
/-! ### try .. several clauses, each «except X as n» -/
abbrev ClA : Type := Value × Nat × (Addr → Value → Option Addr → TS)
abbrev Ends.un (D : Ends) (i : Nat) : Ends := { nx := fun σ' H' => D.nx (σ'.set i none) H', rt := D.rt, bk := fun σ' H' => D.bk (σ'.set i none) H', ct := fun σ' H' => D.ct (σ'.set i none) H' }
def wManyA (K : PySem.W.Frag) (Wo : WX) (D : Ends) : List ClA → WX
  | [] => Wo
  | (c, i, ts) :: r => fun cls d σ H => ∃ b, PySem.W.exmOne K cls c = some b ∧ (b = true → ∀ a, H a = none → ts a cls d (D.un i) (σ.set i (some (.ref a))) H) ∧ (b = false → wManyA K Wo D r cls d σ H)
inductive HdsA (X : Cx) : List ExceptHandler → List ClA → Prop
  | nil : HdsA X [] []
  | cons {x n : Str} {i : Nat} {c : Value} {ts : Addr → Value → Option Addr → TS} {b₀ : Stmt} {su : List Stmt} {np po : Pos} {hs : List ExceptHandler} {l : List ClA} (hc : Names X x c) (hi : X.N[i]? = some n) (hn : X.env.kindOf n = some .local)
      (hsu : ∀ (a : Addr) (oe : Obj) (cls : Value) (d : Option Addr) (pn : List (Addr × Obj)), Zc cls d oe → (∃ vs, oe.data = .fields vs) → PSs (X.suite a ((a, oe) :: pn)) (b₀ :: su) (ts a cls d)) (r : HdsA X hs l) :
      HdsA X (.ExceptHandler (some (.Name x np)) (some n) (b₀ :: su) po :: hs) ((c, i, ts) :: l)
section
variable {X : Cx} {body : List Stmt} {k₀ : ExceptHandler} {ks : List ExceptHandler} {l : List ClA} {pos : Pos} {tb : WX → TS} {Wo : WX}
theorem ps_try_manyA (e1 : X.stack = X.env :: X.outer) (e2 : X.env.frame = some X.env.locals) (nd : X.N.Nodup) (tk : Takes X Wo)
    (hb : ∀ (W : WX) (pn : List (Addr × Obj)) (xe : Value → Shared → Prop), Takes (X.tr pn xe) W → PassesOwn (model X.prog X.w) X.A X.env xe → PSs (X.tr pn xe) body (tb W))
    (hh : HdsA X (k₀ :: ks) l) : PS X (.Try body (k₀ :: ks) [] [] pos) (fun D σ H => tb (wManyA X.K Wo D l) D σ H) := by
  refine ⟨fun pins s σ H D I hw => ?_⟩
  have ok := I.ok
  have efr : X.A.frames = some (X.env :: X.outer) := by rw [ok.frames, e1]
  refine wpAny_Try_except (wpAny_mono ((hb (wManyA X.K Wo D l) (X.pn ++ pins) _ (fun u s1 xx => ?cat) PassesOwn.looking).run [] s σ H D (I.toTry _) hw) (fun fl s1 sp => ?thru) (fun e s1 he => he))
  case thru =>
    cases fl with
    | next => exact let ⟨σ', H', J', q⟩ := sp; wpAny_execs_nil ⟨σ', H', J'.ofTry ok, q⟩
    | brk => exact let ⟨σ', H', J', q⟩ := sp; ⟨σ', H', J'.ofTry ok, q⟩
    | cont => exact let ⟨σ', H', J', q⟩ := sp; ⟨σ', H', J'.ofTry ok, q⟩
    | ret u => exact let ⟨v, σ', H', J', r, q⟩ := sp; ⟨v, σ', H', J'.ofTry ok, r, q⟩
  case cat =>
    obtain ⟨a, B, sI, pz, σ', H', cls, d, rfl, J0, nb, up, sky, na, os, ag, ww⟩ := xx
    have J : Inv X pins σ' H' sI := J0.ofTry ok
    rw [e1] at sky
    refine Sky.land Zc.steady efr e2 sky fun h3 fl3 up3 => ?_
    have J3 : Inv X pins σ' H' ⟨h3, s1.gens, s1.drawn, s1.toks, s1.os⟩ := J.landed nb fl3.1 (up.trans up3) os ag
    obtain ⟨o3, vs3, g3, z3, d3⟩ := fl3.there
    have out : a ∉ frs (X.env :: X.outer) := fun hm => by
      obtain ⟨_, o', e', nf⟩ := fl3.2.2.1.mem hm
      rw [g3] at e'
      cases e'
      exact nf _ d3
    have nL : a ≠ X.env.locals := fun z => out (List.mem_filterMap.mpr ⟨X.env, List.mem_cons_self, by rw [e2, z]⟩)
    have nF : a ∉ X.fs := fun hm => by
      obtain ⟨e, he, q⟩ := List.mem_filterMap.mp hm
      exact out (List.mem_filterMap.mpr ⟨e, List.mem_cons_of_mem _ he, q⟩)
    have S3 := J3.suite g3 d3 na nL nF
    have go : ∀ {hs : List ExceptHandler} {m : List ClA}, HdsA X hs m → wManyA X.K Wo D m cls d σ' H' → wpAny (model X.prog X.w) X.A (handleBy (.ref a) X.env hs) (SP X pins D) X.xe { s1 with heap := h3 } := by
      intro hs m hk
      induction hk with
      | nil =>
        intro wq
        refine wpAny_handleBy_nil ?_
        obtain ⟨_, _, _, oe, vs, T, oT, _, ge, _, gd, gt, _⟩ := id fl3
        have last : wpAny (model X.prog X.w) X.A (setFlight (.ref a) X.env.frame) (fun _ s4 => wpAny (model X.prog X.w) X.A (throw (.ref a) : Sem Flow) (SP X pins D) X.xe s4) X.xe ⟨h3, s1.gens, s1.drawn, s1.toks, s1.os⟩ := by
          rw [e2]
          exact HandSPX.setFlight_upZ fl3 fun h4 hh4 up4 => wpAny_throw (tk _ _ ⟨a, B, sI, pins, σ', H', cls, d, rfl, J, nb, (up.trans up3).trans up4, .inr (.inr (by rw [e1]; exact hh4)), na, os, ag, wq⟩)
        unfold PySem.passOn
        refine wpAny_bind (wpAny_field ge gd gt ?_)
        rw [if_neg (by simp : ¬ ((Value.ref T == Value.none) = true))]
        first | exact wpAny_bind (wpAny_pure (wpAny_bind last)) | exact wpAny_bind last
      | @cons x n i c ts b₀ su np po hs2 l2 hc hi hn hsu r ih =>
        rintro ⟨b, eb, yes, no⟩
        refine wpAny_handleBy_cons (codeAny_handlers_test ?_) (fun q => nomatch q)
        have L1 : PySem.W.Looks (model X.prog X.w) h3 (typeOf (.ref a)) cls := fun A Q E s k q => wpAny_typeOf_ref (k _ _ g3) (by rw [z3.1]; exact q)
        have L2' := PySem.W.exm_one (M := model X.prog X.w) J3.kIn L1 eb
        have look : ∀ {Q E : Value → Shared → Prop}, Q c ⟨h3, s1.gens, s1.drawn, s1.toks, s1.os⟩ → wpAny (model X.prog X.w) (X.A.mark (some (.ref a))) (eval (.Name x np) X.env) Q E ⟨h3, s1.gens, s1.drawn, s1.toks, s1.os⟩ := fun {Q E} q => by
          obtain ⟨hg, hdb, hm | ⟨hm, hv, hnn⟩⟩ := hc
          · exact ld_glob (X := X.suite a ((a, o3) :: (X.pn ++ pins))) S3 hg hm q hdb
          · exact ld_blt (X := X.suite a ((a, o3) :: (X.pn ++ pins))) S3 hg hm hv q hnn hdb
        refine look (L2'.here ?_)
        cases b with
        | false => exact ih (no rfl)
        | true =>
          refine codeAny_handlers_suite_as (HandSPX.lands_againZ fl3 fun h4 fl4 up4 => ?_)
          have J4 : Inv X pins σ' H' ⟨h4, s1.gens, s1.drawn, s1.toks, s1.os⟩ := J.landed nb fl4.1 ((up.trans up3).trans up4) os ag
          obtain ⟨o4, vs4, g4, z4, d4⟩ := fl4.there
          have S4 := J4.suite g4 d4 na nL nF
          refine store_ok (X := X.suite a ((a, o4) :: (X.pn ++ pins))) (v := .ref a) S4 nd hi (.inl hn) rfl (fun s5 S5 => ?_) (.inr hn)
          refine wpAny_mono ((hsu a o4 cls d (X.pn ++ pins) z4 ⟨_, d4⟩).run [] s5 _ H' _ S5 (yes rfl a na)) (fun fl s6 sp => ?_) (fun _ _ z => z.elim)
          have fin : ∀ {σ6 : St} {H6 : Hp} {Q : Shared → Prop}, Inv (X.suite a ((a, o4) :: (X.pn ++ pins))) [] σ6 H6 s6 → (∀ s7, Inv X pins (σ6.set i none) H6 s7 → Q s7) →
              wpAny (model X.prog X.w) X.A (do bindName X.env n .none; unbindBehindTheSuite X.env n po) (fun _ s7 => Q s7) X.xe s6 := fun S6 hq => gone_ok (S6.unsuite ok) nd hi hn hq
          cases fl with
          | next => exact let ⟨_, _, S6, q6⟩ := sp; fin S6 fun s7 J7 => ⟨_, _, J7, q6⟩
          | brk => exact let ⟨_, _, S6, q6⟩ := sp; fin S6 fun s7 J7 => ⟨_, _, J7, q6⟩
          | cont => exact let ⟨_, _, S6, q6⟩ := sp; fin S6 fun s7 J7 => ⟨_, _, J7, q6⟩
          | ret u => exact let ⟨_, _, _, S6, r6, q6⟩ := sp; fin S6 fun s7 J7 => ⟨_, _, _, J7, r6, q6⟩
    exact go hh ww
end
end L2
namespace PySem
namespace MCX
open PySem.W PySem.Calls PyProof.Rows PySem.HandSPX
/-- a made error: its own dict holds f -/
structure OwnMade (f : Str) (h h' : Heap) (e C d : Addr) (v : Value) : Prop where
  keep : ∀ b o, h.get? b = some o → h'.get? b = some o
  new : h.objs.size ≤ e
  obj : ∃ oe vs, h'.get? e = some oe ∧ oe.cls = .ref C ∧ oe.dict = some d ∧ oe.data = .fields vs ∧ vs[1]? = some .none
  dbig : h.objs.size ≤ d
  dne : d ≠ e
  ns : h'.Ns1 d (fun y => if y = f then some v else none)
section
variable {prog : Program} {w : World} {A : Around} {R : Result → Shared → Prop} {s : Shared} {K : Frag} {mg : Str → Option Value} {nm f : Str} {C fI : Addr}
theorem x_made (T : XTxt prog K mg nm f C fI) {v : Value} (X : K.In s.heap) (hlim : s.heap.NoLimit) (hroom : A.depth + 1 < recursionLimit)
    (hG : s.heap.Ns mainGlobals mg) (hB : ∃ mb, s.heap.Ns builtinsNs mb ∧ ∀ x : Str, x ≠ "__name__" → mb x = bootBuiltins x)
    (hq : ∀ h' tk e d, OwnMade f s.heap h' e C d v → R (.ok (.ret (.ref e))) { s with heap := h', toks := tk }) :
    codeAny (model prog w) A (.call (.ref C) ⟨[v], []⟩) R s := by
  obtain ⟨cnm, q, N, bs, bm, sn, sub, ab, col, dd, k0, k1, k2, k3, k5, hC, hbm⟩ := T.cls
  obtain ⟨hp, g, dr, tk, os⟩ := s
  have k : ∀ b o, hp.get? b = some o → ((hp.push (kdv_tup [v])).push (excO C hp.objs.size)).get? b = some o := fun b o e => Heap.get?_push_of_some _ (Heap.get?_push_of_some _ e)
  have hget : ((hp.push (kdv_tup [v])).push (excO C hp.objs.size)).get? (hp.objs.size + 1) = some (excO C hp.objs.size) := by heap_get
  have hnx : K.lookup (hp.objs.size + 1) = none := by
    cases e : K.lookup (hp.objs.size + 1) with
    | none => rfl
    | some o =>
      have z : hp.get? (hp.objs.size + 1) = some o := X _ _ e
      exact absurd (Nat.lt_of_succ_lt (Heap.lt_size z)) (Nat.lt_irrefl _)
  refine call_own F.excBase_ValueError (fun X => refsVE_contains X bm hbm) (X _ _ hC) (looks_findIn X T.iC) (fun self => bind_fn X self T.tC) (by rw [sizeLine_eq]; exact (by decide : 1 ≤ 16777216)) ?_
  refine sup_init (s := ⟨(hp.push (kdv_tup [v])).push (excO C hp.objs.size), g, dr, tk, os⟩) T (X.keeps k) (hlim.keeps k) hget hnx hroom (hG.keeps k) (let ⟨mb, b1, b2⟩ := hB; ⟨mb, b1.keeps k, b2⟩) fun h' tk' dx t1 ⟨k', hx, dn, dne, hns⟩ => ?_
  have old : ∀ b o, hp.get? b = some o → h'.get? b = some o := fun b o e => k' b o (Nat.ne_of_lt (Nat.lt_succ_of_lt (Heap.lt_size e))) (k b o e)
  have z : hp.objs.size + 1 + 1 ≤ dx := by
    first
      | (simpa only [Heap.size_push] using dn)
      | exact dn
      | (have q := dn; rw [Heap.size_push, Heap.size_push] at q; exact q)
  exact ⟨rfl, hq h' tk' (hp.objs.size + 1) dx ⟨old, Nat.le_succ _, ⟨_, _, hx, rfl, rfl, rfl, rfl⟩, Nat.le_trans (Nat.le_trans (Nat.le_succ _) (Nat.le_succ _)) z, dne, hns⟩⟩
end
end MCX
end PySem
namespace L2
open PySem PySem.Spec PyProof.Rows
theorem relO_one {g : Str} {v : V} {v' : Value} (r : RelV v v') (f : Str) : RelO (List.lookup f [(g, v)]) (if f = g then some v' else none) := by
  by_cases hw : f = g
  · subst hw
    rw [if_pos rfl]
    have q : List.lookup f [(f, v)] = some v := by simp [List.lookup]
    rw [q]
    exact r
  · rw [if_neg hw]
    have qw : (f == g) = false := by simpa using hw
    have q2 : List.lookup f [(g, v)] = none := by simp [List.lookup, qw]
    rw [q2]
    trivial
section
variable {X : Cx} {nm f : Str} {C fI : Addr}
/-- nm(e) -/
def tMkX (f : Str) (C : Addr) (ta : TA) : St → Hp → XK → Prop := fun σ H Q => ta σ H fun vs H1 => ∃ v, vs = [v] ∧ ∀ d, H1 d = none → Q (.ref C) (some d) (upd H1 d (.xd [(f, v)]))
theorem pmk_x {a : Expr} {ta : TA} {p pos : Pos} {k : Nat} (T : PySem.MCX.XTxt X.prog X.K X.mg nm f C fI) (hr : Room k X.A) (ha : PA X [a] ta) (hg : Gl X nm := by rfl) (hd : (nm == ("__debug__" : Str)) = false := by decide)
    (he : starEach (a :: []) X.env = (false, eval a X.env) :: starEach [] X.env := by rfl) (hpl : (backTo pos (starEach [] X.env)).any (·.1) = false := by rfl) :
    PMk X (.Call (.Name nm p) [a] [] pos) (tMkX f C ta) := by
  intro pins s σ H Q I h
  refine wpAny_Call_Name_kw (ld_glob I hg T.gC ?_ hd)
  refine PySem.W.callWith_K (h₀ := X.base) I.ok.mod.kin T.kC (thn (ha.run pos pins s σ H _ I h) fun us s1 hh => ?_) he hpl
  obtain ⟨vs, H1, I1, r1, v, ev, q1⟩ := hh
  subst ev
  refine ⟨I1.kIn, ?_⟩
  cases r1 with
  | cons rv rn =>
    rename_i v' us'
    cases rn
    show wpAny _ _ (call (.ref C) [v']) _ _ _
    have hlim := I1.nolimit
    have hG : s1.heap.Ns mainGlobals X.mg := I1.ok.mod.glob.keeps I1.bk
    have hB : ∃ mb, s1.heap.Ns builtinsNs mb ∧ ∀ x : Str, x ≠ "__name__" → mb x = bootBuiltins x := let ⟨mb, b1, b2⟩ := I1.ok.mod.blt; ⟨mb, b1.keeps I1.bk, b2⟩
    obtain ⟨hp, g, dr, tk, os⟩ := s1
    refine wpAny_call (PySem.MCX.x_made T I1.kIn hlim (by have := hr.dp; omega) hG hB fun h' tk' e d M => ?_)
    show MkP X pins σ Q (.ref e) ⟨h', g, dr, tk', os⟩
    obtain ⟨oe, fv, hoe, hc, hd, hdat, h1⟩ := M.obj
    have hns := M.ns
    obtain ⟨G', g1, g2⟩ := restrict h' fun b => decide (b ≠ e)
    have gk : ∀ b, b ≠ e → G'.get? b = h'.get? b := fun b hb => g1 b (decide_eq_true hb)
    have ge : G'.get? e = none := g2 e (by simp)
    have old : ∀ b o, hp.get? b = some o → G'.get? b = some o := fun b o q => (gk b (Nat.ne_of_lt (Nat.lt_of_lt_of_le (Heap.lt_size q) M.new))).trans (M.keep b o q)
    have ob : ObjOk X.prog X.w (upd H1 d (.xd [(f, v)])) G' d (.xd [(f, v)]) :=
      ⟨_, hns.at (fun o q => (gk d M.dne).trans q), fun g => relO_one rv g⟩
    have J : Inv X pins σ (upd H1 d (.xd [(f, v)])) ⟨G', g, dr, tk', os⟩ := I1.laid (t' := tk') old M.dbig ob
    refine ⟨e, oe, fv, ⟨G', g, dr, tk', os⟩, _, .ref C, some d, rfl, J, fun b o q => ?_, ge, hoe, ⟨hc, hd⟩, hdat, h1, ?_, rfl, I1.bare, raises_own T.exC T.tyC, q1 d (I1.hok.fresh M.dbig)⟩
    · by_cases hb : b = e
      · have q' : G'.get? b = some o := q
        rw [hb, ge] at q'; cases q'
      · exact (gk b hb).symm.trans q
    · rw [upd_ne (Ne.symm M.dne)]
      exact I1.hok.fresh M.new
/-- raise nm(e) -/
def tRaiseX (f : Str) (C : Addr) (W : WX) (ta : TA) : TS := fun _ σ H => tMkX f C ta σ H fun cls d H' => W cls d σ H'
theorem ps_raiseX {a : Expr} {ta : TA} {W : WX} {p pos pos2 : Pos} {k : Nat} (hc : X.calm = true) (T : PySem.MCX.XTxt X.prog X.K X.mg nm f C fI) (hr : Room k X.A) (tk : Takes X W) (ha : PA X [a] ta) (hg : Gl X nm := by rfl) (hd : (nm == ("__debug__" : Str)) = false := by decide)
    (he : starEach (a :: []) X.env = (false, eval a X.env) :: starEach [] X.env := by rfl) (hpl : (backTo pos (starEach [] X.env)).any (·.1) = false := by rfl) :
    PS X (.Raise (some (.Call (.Name nm p) [a] [] pos)) none pos2) (tRaiseX f C W ta) := ps_raise hc tk (pmk_x T hr ha hg hd he hpl)
theorem _root_.PySem.MCX.XTxt.xf {prog : Program} {K : PySem.W.Frag} {mg : Str → Option Value} (T : PySem.MCX.XTxt prog K mg nm f C fI) : XfC K C := ⟨T.ga, T.gg, T.exC, T.hdC⟩
end
end L2
namespace MCH
open PySem PySem.Spec PyProof.Rows L2 PySem.W PySem.MCX PySem.HandSPX He
/-! ### facts of own errors (super().__init__) by names, beside the layer's own facts -/
def asM (g : Addr → Option Obj) : Nat → List Addr
  | 0 => [mainGlobals, cStatics]
  | n + 1 => growD g (asM g n)
/-- an own error: its class's name, its field, its __init__ -/
structure XD where
  nm : Str
  f : Str
  st : Stmt
abbrev FnV : Type := Option (Str × Arguments × FuncBody × Scope × Addr × Addr)
def fnV (K : Frag) (x : XD) : FnV := match K.lookup (ma K (ga K x.nm) "__init__") with
  | some ⟨_, _, .func fd, _⟩ => some (fd.name, fd.params, fd.body, fd.scope, fd.globals, fd.builtins)
  | _ => none
def XD.val (x : XD) : FnV := some ("__init__", defArgs x.st, .stmts (defBody x.st), defScope x.st, mainGlobals, builtinsNs)
def clB (K : Frag) (C : Addr) : Bool := match K.lookup C with
  | some ⟨.type c, _, .cls cd, sl⟩ => decide (c = "type") && (match cd.mro, sl.toList with
    | .ref C' :: bm, [_, _, _, _, some (.builtin n), _] => decide (C' = C) && (decide (n = "ValueError.__new__") && (!cd.hasDel && (cd.hasDict && refsVE bm)))
    | _, _ => false)
  | _ => false
theorem clB_ok {K : Frag} {C : Addr} (h : clB K C = true) : ∃ nm q N bs bm sn sub ab col dd k0 k1 k2 k3 k5, K.lookup C = some (excClassObj nm q C N bs bm true sn sub ab col dd k0 k1 k2 k3 k5 "ValueError.__new__") ∧ refsVE bm = true := by
  unfold clB at h
  cases q : K.lookup C with
  | none => rw [q] at h; cases h
  | some o =>
    obtain ⟨oc, od, dt, sl⟩ := o
    rw [q] at h
    cases oc with
    | type c =>
      cases dt with
      | cls cd =>
        obtain ⟨h1, h2⟩ := ba h
        have e1 : c = "type" := of_decide_eq_true h1
        subst e1
        obtain ⟨nm, bs, mro, ns, qn, hd, sn, sb, ab, col, del⟩ := cd
        obtain ⟨sl⟩ := sl
        dsimp only at h2
        split at h2
        · rename_i C' bm k0 k1 k2 k3 n k5
          obtain ⟨a1, h3⟩ := ba h2
          obtain ⟨a2, h4⟩ := ba h3
          obtain ⟨a3, h5⟩ := ba h4
          obtain ⟨a4, a5⟩ := ba h5
          have z1 := of_decide_eq_true a1
          have z2 := of_decide_eq_true a2
          subst z1 z2
          simp only [Bool.not_eq_true'] at a3
          subst a3 a4
          exact ⟨nm, qn, ns, bs, bm, sn, sb, ab, col, od, k0, k1, k2, k3, k5, rfl, a5⟩
        · cases h2
      | _ => cases h
    | _ => cases dt <;> cases h
def fnB (prog : Program) (K : Frag) (C fI : Addr) : Bool := match K.lookup fI with
  | some ⟨_, _, .func fd, _⟩ => decide (fd.defaults = .none) && (decide (fd.kwdefaults = .none) && (match fd.code, fd.closure with
    | .ref cda, [(x, cc)] => decide (x = "__class__") && (codeIn K (.ref cda) fd.qualname && ((match K.lookup cda with
      | some ⟨_, _, .fields vs, _⟩ => (match (vs[2]? : Option Value) with
        | some (.str file _) => ((prog.main.file : Str) == file)
        | _ => false)
      | _ => false) && (match K.lookup cc with
      | some ⟨_, _, .cell (some (.ref D)), _⟩ => decide (D = C)
      | _ => false)))
    | _, _ => false))
  | _ => false
def xB (prog : Program) (K : Frag) (x : XD) : Bool :=
  eqO (nsIn K mainGlobals x.nm) (some (some (.ref (ga K x.nm)))) && (clB K (ga K x.nm) && (eqO (findIn K (.ref (ga K x.nm)) "__setattr__") (some (some (.builtin "object.__setattr__"))) &&
  (eqO (findIn K (.ref (ga K x.nm)) "__getattribute__") (some (some (.builtin "BaseException.__getattribute__"))) && (eqO (findIn K (.ref (ga K x.nm)) "__getattr__") (some none) && (eqO (findIn K (.ref (ga K x.nm)) x.f) (some none) &&
  (eqO (findIn K (.ref (ga K x.nm)) "__init__") (some (some (.ref (ma K (ga K x.nm) "__init__")))) && (decide (typeIn K (.ref (ma K (ga K x.nm) "__init__")) = some (.type "function")) && (keepIn K (.ref (ga K x.nm)) &&
  (decide (subIn K (.ref (ga K x.nm)) (.type "BaseException") = some true) && (decide (subIn K (.ref (ga K x.nm)) (.type "ValueError") = some true) && (decide (typeIn K (.ref (ga K x.nm)) = some (.type "type")) && (hasDictIn K (ga K x.nm) &&
  (decide (exmOne K (.ref (ga K x.nm)) (.ref (ga K x.nm)) = some true) && (decide (mroIn K (ga K x.nm) (.ref (ga K x.nm)) = some true) && (eqO (ks_superIn K (ga K x.nm) (ga K x.nm) "__init__") (some (some (.builtin "ValueError.__init__"))) &&
  (eqO (nsIn K cStatics "thirdparty.any") (some none) && (eqO (nsIn K mainGlobals "super") (some none) && fnB prog K (ga K x.nm) (ma K (ga K x.nm) "__init__"))))))))))))))))))
theorem xB_ok {prog : Program} {K : Frag} {h : Heap} {mg : Str → Option Value} (X : K.In h) (G : h.Ns mainGlobals mg) {x : XD} (c : xB prog K x = true) (e : fnV K x = x.val) (fok : FOk x.f) (htop : (prog.main.scope.names.lookup ("super" : Str)).isSome = false)
    {p1 p2 q1 q2 q3 q4 q5 q6 q7 q8 q9 q10 : Pos} (eA : defArgs x.st = iA x.f p1 p2) (eB : defBody x.st = iB x.f q1 q2 q3 q4 q5 q6 q7 q8 q9 q10) (eS : defScope x.st = iS x.f) (hpos : (q3.endLine == q5.line) = true) :
    XTxt prog K mg x.nm x.f (ga K x.nm) (ma K (ga K x.nm) "__init__") := by
  unfold xB at c
  simp only [Bool.and_eq_true] at c
  obtain ⟨c1, c2, c3, c4, c5, c6, c7, c8, c9, c10, c11, c12, c13, c14, c15, c16, c17, c18, c19⟩ := c
  refine { gC := mg_of X G (eqO_ok c1), fok := fok, cls := clB_ok c2, sa := eqO_ok c3, ga := eqO_ok c4, gg := eqO_ok c5, noF := eqO_ok c6, iC := eqO_ok c7, tC := of_decide_eq_true c8, kC := c9, exC := of_decide_eq_true c10, veC := of_decide_eq_true c11, tyC := of_decide_eq_true c12, hdC := c13, te := of_decide_eq_true c14, mC := of_decide_eq_true c15, su := eqO_ok c16, tp := eqO_ok c17, noS := mg_none_of X G (eqO_ok c18), top := htop, fn := ?_ }
  unfold fnB at c19
  unfold fnV XD.val at e
  cases q : K.lookup (ma K (ga K x.nm) "__init__") with
  | none => rw [q] at c19; cases c19
  | some o =>
    obtain ⟨oc, od, dt, osl⟩ := o
    rw [q] at c19 e
    cases dt with
    | func fd =>
      obtain ⟨n1, n2, n3, n4, n5, n6, n7, n8, n9, n10, n11, n12, n13, n14, n15⟩ := fd
      simp only [Option.some.injEq, Prod.mk.injEq] at e
      obtain ⟨h1, h3, h4, h5, h6, h8⟩ := e
      rw [eA] at h3
      rw [eB] at h4
      rw [eS] at h5
      subst h1 h3 h4 h5 h6 h8
      dsimp only at c19
      simp only [Bool.and_eq_true, decide_eq_true_eq] at c19
      obtain ⟨d1, d2, d3⟩ := c19
      subst d1 d2
      split at d3
      · rename_i cda y cc
        simp only [Bool.and_eq_true, decide_eq_true_eq] at d3
        obtain ⟨m1, m2, m3, m4⟩ := d3
        subst m1
        refine ⟨n2, oc, od, n10, n11, n12, cda, n14, cc, osl, p1, p2, q1, q2, q3, q4, q5, q6, q7, q8, q9, q10, rfl, m2, ?_, ?_, hpos⟩
        · split at m3
          · rename_i _ _ vs _ e1
            split at m3
            · rename_i file tf e2
              exact ⟨_, _, vs, _, file, tf, e1, e2, m3⟩
            · cases m3
          · cases m3
        · split at m4
          · rename_i _ _ D _ e1
            have z := of_decide_eq_true m4
            subst z
            exact ⟨_, _, _, e1⟩
          · cases m4
      · cases d3
    | _ => cases c19
/-! ### the hook -/
abbrev AlM : Type := AlD × Bool × List FnV
def obsM (n : Nat) (prog : Program) (fa : List Fa) (fn : List DefD) (xs : List XD) (ex : Frag → Bool) (g : Addr → Option Obj) : AlM :=
  (obsD fa fn (frG g (asM g n)), (xs.all fun x => xB prog (frG g (asM g n)) x) && ex (frG g (asM g n)), xs.map fun x => fnV (frG g (asM g n)) x)
def valM (fn : List DefD) (xs : List XD) : AlM := (valD fn, true, xs.map XD.val)
structure SaysM (prog : Program) (fa : List Fa) (fn : List DefD) (xs : List XD) (ex : Frag → Bool) (K : Frag) : Prop where
  d : SaysD fa fn K
  x : ∀ x ∈ xs, xB prog K x = true ∧ fnV K x = x.val
  e : ex K = true
theorem map_eq_at {α β : Type} {f g : α → β} : ∀ {l : List α}, l.map f = l.map g → ∀ x ∈ l, f x = g x
  | [], _, x, hx => by cases hx
  | a :: l, h, x, hx => by
    simp only [List.map_cons, List.cons.injEq] at h
    rcases List.mem_cons.mp hx with rfl | hx
    · exact h.1
    · exact map_eq_at h.2 x hx
theorem saysM_of {n : Nat} {prog : Program} {fa : List Fa} {fn : List DefD} {xs : List XD} {ex : Frag → Bool} {g : Addr → Option Obj} (e : obsM n prog fa fn xs ex g = valM fn xs) : SaysM prog fa fn xs ex (frG g (asM g n)) := by
  have e1 := congrArg (fun z : AlM => z.1) e
  have e2 := congrArg (fun z : AlM => z.2.1) e
  have e3 := congrArg (fun z : AlM => z.2.2) e
  obtain ⟨b1, b2⟩ := ba e2
  exact ⟨e1, fun x hx => ⟨List.all_eq_true.mp b1 x hx, map_eq_at e3 x hx⟩, b2⟩
def hookM (n : Nat) (prog : Program) (fa : List Fa) (fn : List DefD) (xs : List XD) (ex : Frag → Bool) : PySem.W.Hook where
  α := AlM
  obs := fun s => obsM n prog fa fn xs ex s.heap.get?
  val := fun _ => valM fn xs
  says := fun w h => ∃ K : PySem.W.Frag, K.In h ∧ SaysM prog fa fn xs ex K
  of := fun _ _ e => ⟨_, frG_in, saysM_of e⟩
  keeps := fun _ _ _ ⟨K, hK, c⟩ k => ⟨K, PySem.W.Frag.In.keeps hK k, c⟩
theorem obsM_eq {n : Nat} {prog : Program} {fa : List Fa} {fn : List DefD} {xs : List XD} {ex : Frag → Bool} {g : Addr → Option Obj} {s : Shared} (h : ∀ a, g a = s.heap.get? a) : obsM n prog fa fn xs ex g = (hookM n prog fa fn xs ex).obs s := by
  have e : g = s.heap.get? := funext h
  rw [e] <;> rfl
end MCH
namespace L2
open PySem PySem.Spec PyProof.Rows
/-! ### data behind a value: None, bools, ints, texts, lists, tuples, the empty dict -/
mutual
inductive Dq (K : PySem.W.Frag) (H : Hp) : V → PyData → Prop
  | non : Dq K H .non .none
  | bl (b : Bool) : Dq K H (.bl b) (.bool b)
  | int (i : Int) : Dq K H (.int i) (.int i)
  | str (x : Str) : x.length ≤ sizeLine → Dq K H (.str x) (.str x)
  | lst {a : Addr} {xs : List V} {ds : List PyData} : SqL K H a xs → DqA K H xs ds → Dq K H (.ref a) (.list ds)
  | tup {a : Addr} {xs : List V} {ds : List PyData} : SqT K H a xs → DqA K H xs ds → Dq K H (.ref a) (.tuple ds)
  | dct {a : Addr} : H a = some (.dK []) → Dq K H (.ref a) (.dict [])
inductive DqA (K : PySem.W.Frag) (H : Hp) : List V → List PyData → Prop
  | nil : DqA K H [] []
  | cons {v : V} {vs : List V} {d : PyData} {ds : List PyData} : Dq K H v d → DqA K H vs ds → DqA K H (v :: vs) (d :: ds)
end
theorem SqT.upT {K : PySem.W.Frag} {H H' : Hp} {a : Addr} {xs : List V} (e : Same H H') (h : SqT K H a xs) : SqT K H' a xs := by
  rcases h with h | h
  · rcases h with h | ⟨o, h⟩
    · exact .inl (.inl (e _ _ h))
    · exact .inl (.inr ⟨o, e _ _ h⟩)
  · exact .inr h
mutual
theorem Dq.up {K : PySem.W.Frag} {H H' : Hp} (e : Same H H') : ∀ {v : V} {d : PyData}, Dq K H v d → Dq K H' v d
  | _, _, .non => .non
  | _, _, .bl b => .bl b
  | _, _, .int i => .int i
  | _, _, .str x h => .str x h
  | _, _, .lst h a => .lst (e.seq h) (DqA.up e a)
  | _, _, .tup h a => .tup (SqT.upT e h) (DqA.up e a)
  | _, _, .dct h => .dct (e _ _ h)
theorem DqA.up {K : PySem.W.Frag} {H H' : Hp} (e : Same H H') : ∀ {vs : List V} {ds : List PyData}, DqA K H vs ds → DqA K H' vs ds
  | _, _, .nil => .nil
  | _, _, .cons h r => .cons (Dq.up e h) (DqA.up e r)
end
theorem DqA.len {K : PySem.W.Frag} {H : Hp} : ∀ {vs : List V} {ds : List PyData}, DqA K H vs ds → vs.length = ds.length
  | _, _, .nil => rfl
  | _, _, .cons _ r => by simp [DqA.len r]
theorem DqA.at {K : PySem.W.Frag} {H : Hp} : ∀ {vs : List V} {ds : List PyData} {i : Nat} {v : V}, DqA K H vs ds → vs[i]? = some v → ∃ d, ds[i]? = some d ∧ Dq K H v d
  | _, _, _, _, .nil, e => by simp at e
  | _, _, 0, _, .cons h _, e => by simp at e; subst e; exact ⟨_, rfl, h⟩
  | _, _, i + 1, v, .cons _ r, e => by
    obtain ⟨d, h1, h2⟩ := DqA.at (i := i) (v := v) r (by simpa using e)
    exact ⟨d, by simpa using h1, h2⟩
/-- no dict within -/
def noDct : PyData → Bool := fun d => !d.hasDict
mutual
theorem Dq.dp {K : PySem.W.Frag} {H : Hp} : ∀ {v : V} {d : PyData}, Dq K H v d → d.hasDict = false → Dp K H v d
  | _, _, .non, _ => .non
  | _, _, .bl b, _ => .bl b
  | _, _, .int i, _ => .int i
  | _, _, .str x _, _ => .str x
  | _, _, .lst h a, n => .lst h (DqA.dp a (by simpa [PyData.hasDict] using n))
  | _, _, .tup h a, n => .tup h (DqA.dp a (by simpa [PyData.hasDict] using n))
  | _, _, .dct h, n => by simp [PyData.hasDict] at n
theorem DqA.dp {K : PySem.W.Frag} {H : Hp} : ∀ {vs : List V} {ds : List PyData}, DqA K H vs ds → PyData.hasDictAll ds = false → DpAll K H vs ds
  | _, _, .nil, _ => .nil
  | _, _, .cons h r, n => by
    simp [PyData.hasDictAll] at n
    exact .cons (Dq.dp h n.1) (DqA.dp r n.2)
end
/-! ### isinstance by data -/
def tyD : PyData → String
  | .none => "NoneType"
  | .bool _ => "bool"
  | .int _ => "int"
  | .str _ => "str"
  | .list _ => "list"
  | .tuple _ => "tuple"
  | .dict _ => "dict"
theorem Dq.ty {K : PySem.W.Frag} {H : Hp} {v : V} {d : PyData} (h : Dq K H v d) : TyX K H v (.type (tyD d)) := by
  cases h with
  | non => exact .base .non
  | bl b => exact .base (.bl b)
  | int i => exact .base (.int i)
  | str x _ => exact .base (.str x)
  | lst h _ =>
    rcases h with (h | ⟨o, h⟩) | ⟨o, _, _, h, hc, _⟩
    · exact .base (.lst h)
    · exact .base (.frz h)
    · exact .kList h hc
  | tup h _ =>
    rcases h with (h | ⟨o, h⟩) | ⟨o, _, _, h, hc, _⟩
    · exact .base (.tup h)
    · exact .fTuple h
    · exact .kTuple h hc
  | dct h => exact .base (.dK h)
def isA (d : PyData) (T : String) : Bool := (kitB (tyD d) T).getD false
def TOK (T : String) : Prop := (kitB "NoneType" T).isSome = true ∧ (kitB "bool" T).isSome = true ∧ (kitB "int" T).isSome = true ∧ (kitB "str" T).isSome = true ∧ (kitB "list" T).isSome = true ∧ (kitB "tuple" T).isSome = true ∧ (kitB "dict" T).isSome = true
theorem isA_kit {K : PySem.W.Frag} {d : PyData} {T : String} (t : TOK T) : PySem.W.kitOne K (.type (tyD d)) (.type T) = some (isA d T) := by
  refine kit_ty ?_
  obtain ⟨h1, h2, h3, h4, h5, h6, h7⟩ := t
  unfold isA
  have z : ∀ o : Option Bool, o.isSome = true → o = some (o.getD false) := fun o h => by cases o with | none => cases h | some b => rfl
  cases d <;> (apply z; assumption)
theorem tok_int : TOK "int" := by unfold TOK; decide +kernel
theorem tok_bool : TOK "bool" := by unfold TOK; decide +kernel
theorem tok_str : TOK "str" := by unfold TOK; decide +kernel
theorem tok_tuple : TOK "tuple" := by unfold TOK; decide +kernel
theorem tok_list : TOK "list" := by unfold TOK; decide +kernel
theorem tok_dict : TOK "dict" := by unfold TOK; decide +kernel
def isStrD : PyData → Bool | .str _ => true | _ => false
def isTupD : PyData → Bool | .tuple _ => true | _ => false
def isBoolD : PyData → Bool | .bool _ => true | _ => false
theorem isA_str (d : PyData) : isA d "str" = isStrD d := by
  unfold isA
  cases d <;> (unfold tyD isStrD; dsimp only; decide +kernel)
theorem isA_tuple (d : PyData) : isA d "tuple" = isTupD d := by
  unfold isA
  cases d <;> (unfold tyD isTupD; dsimp only; decide +kernel)
theorem isA_bool (d : PyData) : isA d "bool" = isBoolD d := by
  unfold isA
  cases d <;> (unfold tyD isBoolD; dsimp only; decide +kernel)
def rIsD (K : PySem.W.Frag) : List V → Hp → VK → Prop := fun xs H Q => ∃ (v : V) (d : PyData) (T : String), xs = [v, .ty T] ∧ Dq K H v d ∧ TOK T ∧ Q (.bl (isA d T)) H
theorem call_isD {X : Cx} : CallR X (.builtin "isinstance") (rIsD X.K) := by
  intro pins s σ H xs us Q I r h
  obtain ⟨v, d, T, rfl, hd, ht, q⟩ := h
  exact call_isi pins s σ H [v, .ty T] us Q I r ⟨v, .ty T, _, _, isA d T, rfl, .ty T, hd.ty, isA_kit ht, q⟩
/-! ### ifs whose test is known -/
section
variable {c A B : Prop} [Decidable c]
theorem iteY (hc : c) (h : A) : if decide c = true then A else B := by
  rw [decide_eq_true hc, if_pos rfl]
  exact h
theorem iteN (hc : ¬ c) (h : B) : if decide c = true then A else B := by
  rw [decide_eq_false hc, if_neg Bool.false_ne_true]
  exact h
theorem iteNY (hc : c) (h : B) : if (!decide c) = true then A else B := by
  rw [decide_eq_true hc]
  exact h
theorem iteNN (hc : ¬ c) (h : A) : if (!decide c) = true then A else B := by
  rw [decide_eq_false hc]
  exact h
theorem iteB {b : Bool} (h1 : b = true → A) (h2 : b = false → B) : if b = true then A else B := by
  cases b with
  | true => exact h1 rfl
  | false => exact h2 rfl
end
/-! ### a comprehension whose element is pure -/
theorem take_snoc {α : Type} : ∀ {l : List α} {i : Nat} {x : α}, l[i]? = some x → l.take i ++ [x] = l.take (i + 1)
  | [], i, x, h => by simp at h
  | a :: l, 0, x, h => by simp at h; subst h; rfl
  | a :: l, i + 1, x, h => by
    have z := take_snoc (l := l) (i := i) (x := x) (by simpa using h)
    show a :: (l.take i ++ [x]) = a :: l.take (i + 1)
    rw [z]
theorem lc_map {J : It} {n j : Nat} {G : Hp → Prop} {Yv : Nat → V → Prop} {te : TE} {vs : List Nat} {σ : St} {H1 : Hp} {D : Addr} {Qd : Hp → Prop} (w : Walk J n G (fun i H x H' => H' = H ∧ Yv i x)) (ys : List V) (hn : ys.length = n) (hz : n ≤ sizeLine)
    (hG : ∀ acc, G (upd H1 D (.lst acc))) (hw : ∀ x, wipe ((wipe σ vs).set j (some x)) vs = wipe σ vs)
    (hs : ∀ (i : Nat) (x : V) (acc : List V) (Q : VK), i < n → Yv i x → (∀ y, ys[i]? = some y → Q y (upd H1 D (.lst acc))) → te ((wipe σ vs).set j (some x)) (upd H1 D (.lst acc)) Q)
    (hd : Qd (upd H1 D (.lst ys))) :
    ∃ W : Nat → Nat → Hp → Prop, (∃ m, W 0 m (upd H1 D (.lst []))) ∧ ∀ i m H, W i m H →
      (J.stop i H ∧ Qd H) ∨ (J.go i H ∧ ∃ Nx : Hp → Prop, (∀ H', Nx H' → ∃ m', m' < m ∧ W (i + 1) m' H') ∧ ∀ x H', J.yld i H x H' → gName j x (wipe σ vs) H' fun σ2 H2 => wipe σ2 vs = wipe σ vs ∧ tYes σ2 H2 fun b H3 =>
        if b = true then te σ2 H3 fun y H4 => ∃ acc, H4 D = some (.lst acc) ∧ acc.length < sizeLine ∧ Nx (upd H4 D (.lst (acc ++ [y]))) else Nx H3) := by
  refine lc_it w (fun i H => H = upd H1 D (.lst (ys.take i))) rfl (fun i H _ e => by rw [e]; exact hG _) ?_ (fun H e => ?_)
  · rintro i x H H' hi rfl ⟨rfl, hy⟩
    refine ⟨hw x, ?_⟩
    refine hs i x _ _ hi hy fun y ey => ⟨ys.take i, upd_same, ?_, ?_⟩
    · rw [List.length_take]
      exact Nat.lt_of_lt_of_le (Nat.lt_of_le_of_lt (Nat.min_le_left _ _) hi) hz
    · rw [upd_upd, take_snoc ey]
  · subst e
    rw [← hn, List.take_length]
    exact hd
/-- repr(x), by the data behind x -/
def rRepr (K : PySem.W.Frag) : List V → Hp → VK → Prop := fun xs H Q => ∃ (v : V) (d : PyData), xs = [v] ∧ Dp K H v d ∧ d.showable = true ∧ d.hasDict = false ∧ d.depth ≤ 60 ∧ d.shown.length ≤ sizeLine ∧ Q (.str d.shown) H
end L2
namespace L2
open PySem PySem.Spec PyProof.Rows
/-! ### promises of defs where no repr is under way (A.guards = some []) -/
structure FnG (P : Program) (w : World) (K : PySem.W.Frag) (mg : Str → Option Value) (base : Heap) (CX : CXT) (k : Nat) (f : Addr) (fd : FuncData) (ps : List Str) (sp : Sp) : Prop where
  len : ∀ vs H Q E, sp vs H Q E → vs.length = ps.length
  run : ∀ (A : Around) (outer : List Env) (s : Shared) (H : Hp) (args : Args) (us : List Value) (vs : List V) (Q : VK) (E : XK), A.guards = some [] → Room k A → Env0 P w K mg base A outer s H → BindsTo s fd args (ps.zip us) → Vals vs us → sp vs H Q E →
    codeAny (model P w) A (.call (.ref f) args) (CR CX outer P w H s Q E) s
section
variable {P : Program} {w : World} {K : PySem.W.Frag} {mg : Str → Option Value} {base : Heap} {CX : CXT} {k : Nat} {f : Addr} {fd : FuncData} {ps : List Str} {sp : Sp}
theorem FnOk.g (F : FnOk P w K mg base CX k f fd ps sp) : FnG P w K mg base CX k f fd ps sp := ⟨F.len, fun A o s H a us vs Q E _ hr => F.run A o s H a us vs Q E hr⟩
theorem FnG.mono {j : Nat} (F : FnG P w K mg base CX j f fd ps sp) (h : j ≤ k) : FnG P w K mg base CX k f fd ps sp := ⟨F.len, fun A o s H a us vs Q E hg hr => F.run A o s H a us vs Q E hg (hr.mono h)⟩
theorem FunD.okG {x qual : Str} {params : Arguments} {body : List Stmt} {scope : Scope} {dvs : List V} {kws : List (Str × V)} {N : List Str} (F : FunD K x qual params body scope dvs kws f fd) (S : FnScope N ps scope) (len : ∀ vs H Q E, sp vs H Q E → vs.length = ps.length)
    (hbody : ∀ (cdv : Value) (A : Around) (outer : List Env) (s : Shared) (H : Hp) (vs : List V) (Q : VK) (E : XK), A.guards = some [] → Room k (A.deeper (envOfC qual scope s.heap.objs.size f cdv)) → sp vs H Q E →
      ∃ t, PSs (cxOf CX P w K mg base N qual scope f cdv A outer s H E) body t ∧ t { nx := fun _ H' => Q .non H', rt := Q } (start N vs) H) : FnG P w K mg base CX (k + 1) f fd ps sp := by
  obtain ⟨oc, od, dV, kV, doc, pm, an, cdv, ct, osl, rfl, lk, hcd, _, _⟩ := F.ex
  refine ⟨len, fun A outer s H args us vs Q E hgd hr e0 hbn rv hsp => ?_⟩
  have KX : K.In s.heap := e0.mod.kin.keeps fun b o e => (e0.bs b o e).1
  have kinds : ∀ y ∈ ps.zip us, scope.names.lookup y.1 = some .local ∨ (scope.names.lookup y.1 = some .cell ∧ ((cellsFrom (s.heap.objs.size + 1) scope.names []).lookup y.1).isSome = true) := by
    rintro ⟨n, v⟩ hy
    exact (S.par n (List.of_mem_zip hy).1).imp id fun q => ⟨q, PySem.W.cellsFrom_some _ _ _ (.inl q)⟩
  refine codeAny_call_function hr.depth (KX _ _ lk) rfl S.co S.gen rfl (PySem.W.codeRec_of KX hcd) (hbn _ _ _ _ (wpAny_newFunctionEnv_cells S.kind kinds fun env he s1 x => ?_))
  subst he
  refine ⟨(e0.mod.nolimit.keeps fun b o e => (e0.bs b o e).1).keeps x.toInCall.keep, codeAny_func ?_⟩
  obtain ⟨t, ht, hq⟩ := hbody cdv A outer s H vs Q E hgd (hr.deeper _) hsp
  have J0 := inv_start (CX := CX) (E := E) S hr.hd e0 (len _ _ _ _ hsp) rv x
  refine wpAny_mono (ht.run [] s1 (start N vs) H _ J0 hq) (fun fl s' hs => ?_) fun e s' hs => hs
  cases fl with
  | ret u => exact let ⟨v, σ', H', J, rz, q⟩ := hs; ⟨v, H', J.os, J.bare, J.base, J.hok, rz, q⟩
  | next => exact let ⟨σ', H', J, q⟩ := hs; ⟨.non, H', J.os, J.bare, J.base, J.hok, rfl, q⟩
  | brk => exact let ⟨_, _, _, q⟩ := hs; q.elim
  | cont => exact let ⟨_, _, _, q⟩ := hs; q.elim
end
section
variable {X : Cx} {CX : CXT} {k : Nat} {f : Addr} {fd : FuncData} {ps : List Str} {sp : Sp} {dvs : List V} {ds : List Value} {E : XK} {x : Str} {p pos : Pos} {e : Expr} {es : List Expr} {t : TA}
theorem run_fnG {pins : List (Addr × Obj)} {σ : St} {H : Hp} {s : Shared} {Q : VK} {us : List Value} {vs : List V} (F : FnG X.prog X.w X.K X.mg X.base CX k f fd ps sp) (hgd : X.A.guards = some []) (hr : Room k X.A) (hb : Binds X.K fd ps ds) (hd : Vals dvs ds) (hx : Passes CX X E)
    (I : Inv X pins σ H s) (r : Vals vs us) (h : sp (vs ++ dvs) H Q E) : wpAny (model X.prog X.w) X.A (call (.ref f) us) (EP X pins σ Q) X.xe s := by
  have rr : Vals (vs ++ dvs) (us ++ ds) := r.append hd
  have hl : (us ++ ds).length = ps.length := rr.length ▸ F.len _ _ _ _ h
  refine wpAny_call (codeAny_mono (F.run X.A X.stack s H ⟨us, []⟩ (us ++ ds) (vs ++ dvs) Q E hgd hr I.env0 (hb s us I.kIn hl) rr h) fun r s' hq => ?_)
  match r, hq with
  | .error e, hq => exact hx pins σ H s e s' I hq
  | .ok (.ret u), hq => exact I.after hq
  | .ok .next, hq => exact hq.elim
  | .ok .brk, hq => exact hq.elim
  | .ok .cont, hq => exact hq.elim
/-- f(e, ..) -/
theorem pe_callG (F : FnG X.prog X.w X.K X.mg X.base CX k f fd ps sp) (hgd : X.A.guards = some []) (hr : Room k X.A) (hg : Gl X x) (hm : X.mg x = some (.ref f)) (hk : PySem.W.keepIn X.K (.ref f) = true) (hb : Binds X.K fd ps ds) (hd : Vals dvs ds) (hx : Passes CX X E)
    (ha : PA X (e :: es) t) (hdb : (x == ("__debug__" : Str)) = false := by decide) (he : starEach (e :: es) X.env = (false, eval e X.env) :: starEach es X.env := by rfl) (hpl : (backTo pos (starEach es X.env)).any (·.1) = false := by rfl) :
    PE X (.Call (.Name x p) (e :: es) [] pos) (tCall sp dvs E t) :=
  ⟨fun pins s σ H Q I h => wpAny_Call_Name_kw (ld_glob I hg hm (PySem.W.callWith_K (h₀ := X.base) I.ok.mod.kin hk (thn (ha.run pos pins s σ H _ I h) fun us s1 ⟨vs, H1, I1, r, q⟩ => ⟨I1.kIn, run_fnG F hgd hr hb hd hx I1 r q⟩) he hpl) hdb)⟩
theorem call_repr (hgd : X.A.guards = some []) (hu : X.A.units + 64 < cLine) : CallR X (.builtin "repr") (rRepr X.K) := by
  intro pins s σ H xs us Q I r h
  obtain ⟨v, d, rfl, hd, sh, nd, dp, hz, q⟩ := h
  obtain ⟨u, rfl, ru⟩ := vals1 r
  obtain ⟨as, hr⟩ := Dp.reads I d v u hd ru
  cases hd with
  | non => cases (show u = Value.none from ru); exact PySem.P.repr_of_none ⟨.str _, H, I.tok _, ⟨_, rfl⟩, q⟩
  | bl b => cases (show u = Value.bool b from ru); exact PySem.P.repr_of_bool ⟨.str _, H, I.tok _, ⟨_, rfl⟩, q⟩
  | int i =>
    obtain ⟨t, rfl⟩ := (show ∃ t, u = Value.int i t from ru)
    exact PySem.P.repr_of_int (by simpa [PyData.showable] using sh) ⟨.str _, H, I.tok _, ⟨_, rfl⟩, q⟩
  | str x =>
    obtain ⟨t, rfl⟩ := (show ∃ t, u = Value.str x t from ru)
    exact PySem.P.repr_of_str ⟨.str _, H, I.tok _, ⟨_, rfl⟩, q⟩ hz
  | lst hs ha =>
    cases ru
    exact repr_of_reads' hr sh (fun z => by rw [nd] at z; cases z) hgd (by omega) (fun _ _ e => e) (fun h' u tk hk => ⟨.str _, H, I.kept (t' := tk) hk, ⟨_, rfl⟩, q⟩) hz
  | tup hs ha =>
    cases ru
    exact repr_of_reads' hr sh (fun z => by rw [nd] at z; cases z) hgd (by omega) (fun _ _ e => e) (fun h' u tk hk => ⟨.str _, H, I.kept (t' := tk) hk, ⟨_, rfl⟩, q⟩) hz
end
end L2
namespace L2
open PySem PySem.Spec PyProof.Rows
/-! ### the law's end over such a promise -/
section
variable {P : Program} {w : World} {K : PySem.W.Frag} {mg mb : Str → Option Value} {CX : CXT} {k : Nat} {fa a : Addr} {fd : FuncData} {x : Str} {sp : Sp} {s₁ : Shared} {vs : List Value} {ns : List Int}
/-- the goal of a law's call -/
abbrev LawGoal (P : Program) (w : World) (fa a : Addr) (s₁ : Shared) : Prop := codeAny (model P w) callerA (.call (.ref fa) ⟨[.ref a], []⟩) (fun r s' => r = .ok (.ret (.bool true)) ∧ OldK s₁.heap s'.heap ∧ s'.os = s₁.os ∧ AllBare s'.gens) s₁
theorem law_callG (KX : K.In s₁.heap) (hns : s₁.heap.Ns mainGlobals mg) (hb : s₁.heap.Ns builtinsNs mb) (hbb : ∀ x : Str, x ≠ "__name__" → mb x = bootBuiltins x) (hlim : s₁.heap.NoLimit) (hg : s₁.gens = #[])
    (ha : s₁.heap.get? a = some { cls := .type "list", data := .seq vs.toArray }) (hi : IntsAre vs ns) (hl : ns.length ≤ sizeLine) (hr : Room k callerA)
    (F : ∀ base : Heap, K.In base → base.Ns mainGlobals mg → FnG P w K mg base CX k fa fd [x] sp) (hbind : ∀ (s : Shared) (u : Value), BindsTo s fd ⟨[u], []⟩ [(x, u)])
    (hsp : ∀ H : Hp, Only H → SqL K H a (ns.map V.int) → sp [.ref a] H (fun v _ => v = .bl true) fun _ _ _ => False)
    (hCX : ∀ H e s', CX [] H s₁ (fun _ _ _ => False) e s' → False) : LawGoal P w fa a s₁ := by
  have main : ∀ H : Hp, Only H → SqL K H a (ns.map V.int) → HOk P w H s₁.heap → (∀ b, H b ≠ none → b = a ∧ K.lookup a = none) → LawGoal P w fa a s₁ := by
    intro H hO hS hok only
    -- what is untracked stands in the base
    have up : ∀ {b : Addr} {o : Obj}, s₁.heap.get? b = some o → H b = none → (hidT s₁.heap H).get? b = some o := fun e n => hidT_get e n
    have free : ∀ {b : Addr} {o : Obj} {es : Array DictEntry} {ep : Nat}, s₁.heap.get? b = some o → o.data = .dict es ep → H b = none := by
      intro b o es ep e d
      refine Classical.byContradiction fun nz => ?_
      obtain ⟨rfl, _⟩ := only b nz
      rw [ha] at e
      cases e
      exact nomatch (show Data.seq vs.toArray _ = Data.dict es ep from d)
    have nsUp : ∀ {b : Addr} {m : Str → Option Value}, s₁.heap.Ns b m → (hidT s₁.heap H).Ns b m := fun ⟨o, es, ep, e, d, r⟩ => ⟨o, es, ep, up e (free e d), d, r⟩
    have KB : K.In (hidT s₁.heap H) := fun b o e => up (KX b o e) (Classical.byContradiction fun nz => by
      obtain ⟨rfl, hk⟩ := only b nz
      rw [hk] at e
      cases e)
    have none0 : ∀ b : Addr, b ∉ frs ([] : List Env) := fun b z => absurd (show b ∈ ([] : List Addr) from z) (by simp)
    have E0 : Env0 P w K mg (hidT s₁.heap H) callerA [] s₁ H :=
      ⟨rfl, ⟨KB, nsUp hns, ⟨mb, nsUp hb, hbb⟩, let ⟨mc, h1, h2⟩ := hlim; ⟨mc, nsUp h1, h2⟩⟩, fun b o e => of_hidT e, Nat.le_of_eq (hidT_size _ _), trivial, fun b z => absurd z (none0 b), hok, .of_eq hg⟩
    refine codeAny_mono ((F _ KB (nsUp hns)).run callerA [] s₁ H ⟨[.ref a], []⟩ [.ref a] [.ref a] _ _ rfl hr E0 (hbind s₁ (.ref a)) (.cons rfl .nil) (hsp H hO hS)) fun r s' h => ?_
    match r, h with
    | .error e, h => exact (hCX H e s' h).elim
    | .ok .next, h => exact h.elim
    | .ok .brk, h => exact h.elim
    | .ok .cont, h => exact h.elim
    | .ok (.ret u), ⟨v, H', os, bare, un, hok', rz, q⟩ =>
      cases (show v = .bl true from q)
      cases (show u = Value.bool true from rz)
      refine ⟨rfl, OldK.of_keep fun b o e => ?_, os, bare⟩
      cases hb' : H b with
      | none => exact un.keep b o e hb' (none0 b) (by simp)
      | some y =>
        rcases hO b with z | ⟨ob, ys, z⟩
        · rw [hb'] at z
          cases z
        · have o1 := (hok b _ z).1
          have o2 := (hok' b _ (un.frzs b ob _ z)).1
          rw [e] at o1
          cases o1
          exact o2
  have rv := vals_ints hi
  have hlen := hi.length
  by_cases hk : K.lookup a = none
  · refine main (fun b => if b = a then some (.frz { cls := .type "list", data := .seq vs.toArray } (.lst (ns.map V.int))) else none) (fun b => ?_) (.inl (.inr ⟨_, if_pos rfl⟩)) (fun b u z => ?_) (fun b z => ?_)
    · by_cases e : b = a
      · exact .inr ⟨_, _, if_pos e⟩
      · exact .inl (if_neg e)
    · by_cases e : b = a
      · subst e
        cases (if_pos rfl).symm.trans z
        exact ⟨ha, by rw [List.length_map]; exact hl, vs, _, rv, ha⟩
      · cases (if_neg e).symm.trans z
    · by_cases e : b = a
      · exact ⟨e, hk⟩
      · exact absurd (if_neg e) z
  · cases ho : K.lookup a with
    | none => exact absurd ho hk
    | some o =>
      have e := KX a o ho
      rw [ha] at e
      cases e
      exact main (fun _ => none) (fun _ => .inl rfl) (.inr ⟨_, vs.toArray, _, ho, rfl, rfl, rfl, by rw [List.size_toArray, hlen]; exact hl, by simpa using rv⟩) (fun b u z => by cases z) (fun b z => absurd rfl z)
end
/-- a law: F gives the written part, the function object, the promise over every base -/
theorem walk_ofG {l : PySem.W.OpenLaw} {n k : Nat} {q : Program} {loose : List Str} {XP : (Str → Option Value) → Heap → Prop} {YP : World → Heap → Prop} {d : DefRec} {CX : World → CXT} {x : Str}
    (hn : l.most = some n) (hn2 : n ≤ sizeLine) (hdf : d.params.defaults = []) (hr : Room k callerA)
    (F : ∀ (w : World) (mg : Str → Option Value) (fa : Addr) (h : Heap), YP w h → h.Ns mainGlobals mg → mg d.name = some (.ref fa) →
      ∃ (K : PySem.W.Frag) (fd : FuncData) (sp : Sp), K.In h ∧ (∀ (s : Shared) (u : Value), BindsTo s fd ⟨[u], []⟩ [(x, u)]) ∧
        (∀ (H : Hp) (a : Addr) (ns : List Int), ns.length ≤ n → Only H → SqL K H a (ns.map V.int) → sp [.ref a] H (fun v _ => v = .bl true) fun _ _ _ => False) ∧
        ∀ base : Heap, K.In base → base.Ns mainGlobals mg → FnG l.prog w K mg base (CX w) k fa fd [x] sp)
    (hCX : ∀ (w : World) (H : Hp) (s : Shared) (e : Value) (s' : Shared), CX w [] H s (fun _ _ _ => False) e s' → False) :
    PySem.W.WalkO q loose XP YP l.row.toRowW d [] (fun f vs => PySem.call f vs) := by
  refine Att.attach_call hn hdf fun w s₀ s₁ mg mb fa o pm cd doc a vs ns G Y ho hd hcd hmg hobj hints hlen hg => ?_
  obtain ⟨K, fd, sp, KX, h1, h2, h3⟩ := F w mg fa _ Y G.T.g hmg
  exact law_callG KX G.T.g G.T.b G.T.builtins G.T.nolimit hg hobj hints (Nat.le_trans hlen hn2) hr h3 h1 (fun H hO hS => h2 H a ns hlen hO hS) fun H e s' => hCX w H s₁ e s'
end L2
namespace L2
open PySem PySem.Spec PyProof.Rows
/-! ### match over sequences of names -/
abbrev TM := V → TS
structure PMs (X : Cx) (cs : List MatchCase) (t : TM) : Prop where
  run : ∀ (pins : List (Addr × Obj)) (s : Shared) (σ : St) (H : Hp) (D : Ends) (v : V) (u : Value) (first : Bool), Inv X pins σ H s → RelV v u → t v D σ H → wpAny (model X.prog X.w) X.A (matchCases cs X.env u first) (SP X pins D) X.xe s
section
variable {X : Cx} {pos pp pq : Pos} {body : List Stmt} {rest : List MatchCase} {t : TS} {r : TM}
theorem ps_match {e : Expr} {te : TE} {cs : List MatchCase} {tm : TM} (he : PE X e te) (h : PMs X cs tm) : PS X (.Match e cs pos) (fun D σ H => te σ H fun v H1 => tm v D σ H1) :=
  ⟨fun pins s σ H D I hw => wpAny_Match (thn (he.run pins s σ H _ I hw) fun u s1 ⟨v, H1, I1, rv, q⟩ => h.run pins s1 σ H1 D v u true I1 rv q)⟩
/-- case _ -/
theorem pm_any (hb : PSs X body t) : PMs X (⟨.MatchAs none none pp, none, body⟩ :: rest) (fun _ => t) :=
  ⟨fun pins s σ H D v u first I rv hw => wpAny_matchCases_cons (wpAny_matchPattern_Capture (wpAny_assignInOrder_none (hb.run pins s σ H D I hw)))⟩
def seqLen : PyData → Option Nat
  | .tuple ds => some ds.length
  | .list ds => some ds.length
  | _ => none
/-- how a value meets a pattern of n names: its items, or not -/
def tSeqCase (K : PySem.W.Frag) (n : Nat) (hit : List V → TS) (miss : TM) : TM := fun v D σ H => ∃ d, Dq K H v d ∧ ((∀ a xs ds, v = .ref a → (d = .tuple ds ∧ SqT K H a xs ∨ d = .list ds ∧ SqL K H a xs) → DqA K H xs ds → xs.length = n → hit xs D σ H) ∧ (seqLen d ≠ some n → miss v D σ H))
theorem ty_flag {pins : List (Addr × Obj)} {s : Shared} {σ : St} {H : Hp} {v : V} {u : Value} {d : PyData} (I : Inv X pins σ H s) (rv : RelV v u) (hd : Dq X.K H v d) (hn : seqLen d = none) {Q : Bool → Shared → Prop} {E : Value → Shared → Prop} (q : Q false s) :
    wpAny (model X.prog X.w) X.A (collectionFlag true u) Q E s := by
  cases hd with
  | non => cases (show u = Value.none from rv); exact wpAny_collectionFlag (T := "NoneType") rfl flag_seq_None q
  | bl b => cases (show u = Value.bool b from rv); exact wpAny_collectionFlag (T := "bool") rfl flag_seq_bool q
  | int i => obtain ⟨t, rfl⟩ := (show ∃ t, u = Value.int i t from rv); exact wpAny_collectionFlag (T := "int") rfl flag_seq_int q
  | str x _ => obtain ⟨t, rfl⟩ := (show ∃ t, u = Value.str x t from rv); exact wpAny_collectionFlag (T := "str") rfl flag_seq_str q
  | lst _ _ => cases hn
  | tup _ _ => cases hn
  | @dct a h =>
    cases rv
    obtain ⟨_, _, vs, _, o, es, ep, h1, h2, _⟩ := (show ObjOk X.prog X.w H s.heap a (.dK []) from I.hok a _ h)
    exact wpAny_collectionFlag (T := "dict") ⟨o, h1, h2.1⟩ flag_seq_dict q
theorem seq_pat {pins : List (Addr × Obj)} {s : Shared} {σ : St} {H : Hp} {v : V} {u : Value} {d : PyData} {ps : List Pattern} {Q : Option (List (Str × Value)) → Shared → Prop} (hc : X.calm = true) (I : Inv X pins σ H s) (rv : RelV v u) (hd : Dq X.K H v d)
    (hit : ∀ a xs ds its s', v = .ref a → (d = .tuple ds ∧ SqT X.K H a xs ∨ d = .list ds ∧ SqL X.K H a xs) → DqA X.K H xs ds → xs.length = ps.length → Vals xs its → Inv X pins σ H s' → wpAny (model X.prog X.w) X.A (matchEach ps X.env its) Q X.xe s')
    (miss : seqLen d ≠ some ps.length → ∀ s', Inv X pins σ H s' → Q none s')
    (hstar : ps.findIdx? (·.isStar) = none := by rfl) (hwild : (ps.all fun p => p.isWildcard || (p.isStar && p.names.isEmpty)) = false := by rfl) :
    wpAny (model X.prog X.w) X.A (matchPattern (.MatchSequence ps pos) X.env u) Q X.xe s := by
  have fit : ∀ {xs : List V} {its : List Value}, Vals xs its → xs.length ≤ sizeLine → (its.toArray.size : Int) < 2 ^ 63 := fun {xs its} r h => by
    have e := r.length
    have z := line63
    simp only [List.size_toArray]
    omega
  have kept : ∀ {h' : Heap}, Heap.ExtBut s.heap.objs.size s.heap h' → Inv X pins σ H { s with heap := h', toks := s.toks + 1 + 1 } := fun hx => I.kept (t' := s.toks + 1 + 1) fun b o e => hx b o (Nat.ne_of_lt (Heap.lt_size e)) e
  have plain : seqLen d = none → wpAny (model X.prog X.w) X.A (matchPattern (.MatchSequence ps pos) X.env u) Q X.xe s := fun hn => by
    refine wpAny_matchPattern_Sequence (ty_flag I rv hd hn ?_) hstar hwild
    show Q none s
    exact miss (by rw [hn]; exact nofun) s I
  cases hd with
  | @tup a xs ds hs ha =>
    cases rv
    obtain ⟨its, rz, ht, hz⟩ := I.tuple hs
    have el : xs.length = ds.length := ha.len
    have ei : its.toArray.size = xs.length := by simp [rz.length]
    by_cases hn : its.toArray.size = ps.length
    · refine matchSeq_tuple_hit ht (fit rz hz) hn ?_ hstar hwild
      rw [← hn]
      refine unpackItems_tuple (I.ok.hd hc) ht fun h' hx => ?_
      exact hit a xs ds its _ rfl (.inl ⟨rfl, hs⟩) ha (ei.symm.trans hn) rz (kept hx)
    · exact matchSeq_tuple_miss ht (fit rz hz) hn (miss (fun z => hn (by rw [ei, el]; exact Option.some.inj z)) _ (I.tok _)) hstar hwild
  | @lst a xs ds hs ha =>
    cases rv
    obtain ⟨its, rz, pl, hz⟩ := I.list hs
    have hl' : s.heap.IsList a its.toArray := by
      obtain ⟨o, m, e, c, d, q⟩ := pl
      exact ⟨o, e, c, m, q⟩
    have el : xs.length = ds.length := ha.len
    have ei : its.toArray.size = xs.length := by simp [rz.length]
    by_cases hn : its.toArray.size = ps.length
    · refine matchSeq_list_hit hl' (fit rz hz) hn ?_ hstar hwild
      rw [← hn]
      refine PySem.W.kun_itemsOf (I.ok.hd hc) hl' fun h' hx => ?_
      exact hit a xs ds its _ rfl (.inr ⟨rfl, hs⟩) ha (ei.symm.trans hn) rz (kept hx)
    · exact matchSeq_list_miss hl' (fit rz hz) hn (miss (fun z => hn (by rw [ei, el]; exact Option.some.inj z)) _ (I.tok _)) hstar hwild
  | non => exact plain rfl
  | bl b => exact plain rfl
  | int i => exact plain rfl
  | str x h => exact plain rfl
  | dct h => exact plain rfl
/-- case (x,) -/
theorem pm_seq1 {i : Nat} {x : Str} (hc : X.calm = true) (nd : X.N.Nodup) (hi : X.N[i]? = some x) (hx : X.env.scope.names.lookup x = some .local) (hb : PSs X body t) (hr : PMs X rest r) :
    PMs X (⟨.MatchSequence [.MatchAs none (some x) pp] pq, none, body⟩ :: rest) (tSeqCase X.K 1 (fun xs D σ H => ∀ y, xs = [y] → t D (σ.set i (some y)) H) r) := by
  refine ⟨fun pins s σ H D v u first I rv hw => ?_⟩
  obtain ⟨d, hd, h1, h2⟩ := hw
  refine wpAny_matchCases_cons (seq_pat hc I rv hd (fun a xs ds its s' ev hs ha hl rz I' => ?_) (fun ne s' I' => hr.run pins s' σ H D v u false I' rv (h2 ne)))
  obtain ⟨y, rfl⟩ : ∃ y, xs = [y] := by
    match xs, hl with
    | [y], _ => exact ⟨y, rfl⟩
  obtain ⟨z, rfl, ry⟩ := vals1 rz
  refine wpAny_matchEach_cons (wpAny_matchPattern_Capture (wpAny_matchEach_nil ?_))
  refine wpAny_assignInOrder_more (wpAny_bindName ?_)
  refine store_ok I' nd hi (.inl hx) ry (fun s2 I2 => ?_) (.inr hx)
  exact wpAny_assignInOrder_none (hb.run pins s2 _ H D I2 (h1 a [y] ds ev hs ha rfl y rfl))
/-- case (x, y) -/
theorem pm_seq2 {i j : Nat} {x z : Str} {pr : Pos} (hc : X.calm = true) (nd : X.N.Nodup) (hi : X.N[i]? = some x) (hj : X.N[j]? = some z) (hx : X.env.scope.names.lookup x = some .local) (hz : X.env.scope.names.lookup z = some .local) (hb : PSs X body t) (hr : PMs X rest r) :
    PMs X (⟨.MatchSequence [.MatchAs none (some x) pp, .MatchAs none (some z) pr] pq, none, body⟩ :: rest) (tSeqCase X.K 2 (fun xs D σ H => ∀ y1 y2, xs = [y1, y2] → t D ((σ.set i (some y1)).set j (some y2)) H) r) := by
  refine ⟨fun pins s σ H D v u first I rv hw => ?_⟩
  obtain ⟨d, hd, h1, h2⟩ := hw
  refine wpAny_matchCases_cons (seq_pat hc I rv hd (fun a xs ds its s' ev hs ha hl rz I' => ?_) (fun ne s' I' => hr.run pins s' σ H D v u false I' rv (h2 ne)))
  obtain ⟨y1, y2, rfl⟩ : ∃ y1 y2, xs = [y1, y2] := by
    match xs, hl with
    | [y1, y2], _ => exact ⟨y1, y2, rfl⟩
  obtain ⟨z1, z2, rfl, ry1, ry2⟩ := vals2 rz
  refine wpAny_matchEach_cons (wpAny_matchPattern_Capture (wpAny_matchEach_cons (wpAny_matchPattern_Capture (wpAny_matchEach_nil ?_))))
  refine wpAny_assignInOrder_more (wpAny_bindName ?_)
  refine store_ok I' nd hi (.inl hx) ry1 (fun s2 I2 => ?_) (.inr hx)
  refine wpAny_assignInOrder_more (wpAny_bindName ?_)
  refine store_ok I2 nd hj (.inl hz) ry2 (fun s3 I3 => ?_) (.inr hz)
  exact wpAny_assignInOrder_none (hb.run pins s3 _ H D I3 (h1 a [y1, y2] ds ev hs ha rfl y1 y2 rfl))
end
end L2
namespace L2
open PySem PySem.Spec PyProof.Rows
/-! ### C(e, .., k = v, ..) within a try: what is raised is wished for at the slots -/
def tMakeKS (C : Addr) (n m : Nat) (sp : Sp) (gV : List V → List V → List V) (E : St → XK) (t tk : TA) : TE := fun σ H Q => t σ H fun vs H1 => tk σ H1 fun zs H2 => vs.length = n ∧ zs.length = m ∧ ∀ x dx, H2 x = none → H2 dx = none → dx ≠ x →
  sp (gV (.ref x :: vs) zs) (upd (upd H2 dx (.own x)) x (.ins C dx [])) (fun v H3 => v = .non ∧ Q (.ref x) H3) (E σ)
section
variable {X : Cx} {CX : CXT} {k n : Nat} {f C : Addr} {fd : FuncData} {ps ks : List Str} {sp : Sp} {x : Str} {p pos : Pos} {e : Expr} {es : List Expr} {kws : List Keyword} {t tk : TA} {g : List Value → List Value → List Value} {gV : List V → List V → List V}
theorem run_makeKS {E : XK} {pins : List (Addr × Obj)} {σ : St} {H : Hp} {s : Shared} {Q : VK} {us ws : List Value} {vs zs : List V} (M : Mk X.K C f) (F : FnOk X.prog X.w X.K X.mg X.base CX k f fd ps sp) (hr : Room (k + 1) X.A) (hb : KBn X.K fd ps (n + 1) ks g gV) (hx : PassesAt CX X σ E)
    (I : Inv X pins σ H s) (r : Vals vs us) (rz : Vals zs ws) (l1 : vs.length = n) (l2 : zs.length = ks.length)
    (h : ∀ x dx, H x = none → H dx = none → dx ≠ x → sp (gV (.ref x :: vs) zs) (upd (upd H dx (.own x)) x (.ins C dx [])) (fun v H2 => v = .non ∧ Q (.ref x) H2) E) :
    wpAny (model X.prog X.w) X.A (call (.ref C) us (ks.zip ws)) (EP X pins σ Q) X.xe s := by
  have J := Inv.made (C := C) I
  have hh := h (s.heap.objs.size + 1) s.heap.objs.size (I.hok.fresh (Nat.le_succ _)) (I.hok.fresh (Nat.le_refl _)) (Nat.ne_of_lt (Nat.lt_succ_self _))
  have rr := hb.rel (Paired.cons (show RelV (V.ref (s.heap.objs.size + 1)) (Value.ref (s.heap.objs.size + 1)) from rfl) r) rz
  have ln : (Value.ref (s.heap.objs.size + 1) :: us).length = n + 1 := congrArg (· + 1) (r.length.symm.trans l1)
  have go := F.run _ X.stack _ _ ⟨Value.ref (s.heap.objs.size + 1) :: us, ks.zip ws⟩ _ _ _ E (hr.make C us (ks.zip ws)) (J.env0.make C us (ks.zip ws)) (hb.to _ (Value.ref (s.heap.objs.size + 1) :: us) ws J.kIn ln (rz.length.symm.trans l2)) rr hh
  refine wpAny_call (make_map (f := f) I.kIn M.makes M.init (beq_iff_eq.mp M.fn) (codeAny_mono go fun r s' hq => ?_))
  match r, hq with
  | .error e, hq => exact hx pins _ _ e s' J hq
  | .ok (.ret u), hq =>
    obtain ⟨v, H', I3, rv, rfl, q3⟩ := J.after hq
    exact ⟨rv, ⟨V.ref (s.heap.objs.size + 1), H', I3, rfl, q3⟩⟩
  | .ok .next, hq => exact hq.elim
  | .ok .brk, hq => exact hq.elim
  | .ok .cont, hq => exact hq.elim
theorem pe_makeKS {E : St → XK} (M : Mk X.K C f) (F : FnOk X.prog X.w X.K X.mg X.base CX k f fd ps sp) (hr : Room (k + 1) X.A) (hg : Gl X x) (hm : X.mg x = some (.ref C)) (hb : KBn X.K fd ps (n + 1) ks g gV) (hx : ∀ σ, PassesAt CX X σ (E σ)) (ha : PA X (e :: es) t) (hkw : PK X kws tk)
    (hall : (backToKw pos (keywordEach kws X.env)).all (·.1.isSome) = true := by rfl) (hks : (backToKw pos (keywordEach kws X.env)).filterMap (·.1) = ks := by rfl) (hdb : (x == ("__debug__" : Str)) = false := by decide)
    (he : starEach (e :: es) X.env = (false, eval e X.env) :: starEach es X.env := by rfl) (hpl : ((backTo pos (starEach (e :: es) X.env)).any (·.1) || (backToKw pos (keywordEach kws X.env)).any (·.1.isNone)) = false := by rfl) :
    PE X (.Call (.Name x p) (e :: es) kws pos) (tMakeKS C n ks.length sp gV E t tk) := by
  refine ⟨fun pins s σ H Q I h => wpAny_Call_Name_kw (ld_glob I hg hm (PySem.W.callWith_KW (h₀ := X.base) I.ok.mod.kin M.kp hall (thn (ha.run pos pins s σ H _ I h) fun us s1 hh => ?_) hpl he) hdb)⟩
  obtain ⟨vs, H1, I1, r, q⟩ := hh
  refine thn (hkw.run pos pins s1 σ H1 _ I1 q) fun ws s2 ⟨zs, H2, I2, rz, l1, l2, q2⟩ => ⟨I2.kIn, ?_⟩
  rw [hks]
  exact run_makeKS M F hr hb (hx σ) I2 r rz l1 l2 q2
end
end L2
namespace L2
open PySem PySem.Spec PyProof.Rows
/-! ### written data: a display as one step -/
/-- what stands in H' and did not in H -/
def newOf (H H' : Hp) : Hp := fun b => if H b = none then H' b else none
theorem newOf_some {H H' : Hp} {b : Addr} {o : HO} (h : newOf H H' b = some o) : H b = none ∧ H' b = some o := by
  unfold newOf at h
  by_cases e : H b = none
  · rw [if_pos e] at h
    exact ⟨e, h⟩
  · rw [if_neg e] at h
    cases h
theorem newOf_of {H H' : Hp} {b : Addr} {o : HO} (h1 : H b = none) (h2 : H' b = some o) : newOf H H' b = some o := by
  unfold newOf
  rw [if_pos h1]
  exact h2
theorem newOf_right {H H1 H2 : Hp} (s : Same H1 H2) : Same (newOf H H1) (newOf H H2) := fun b o e => by
  obtain ⟨a, c⟩ := newOf_some e
  exact newOf_of a (s b o c)
theorem newOf_left {H H1 H2 : Hp} (s : Same H H1) : Same (newOf H1 H2) (newOf H H2) := fun b o e => by
  obtain ⟨a, c⟩ := newOf_some e
  exact newOf_of (s.free a) c
theorem newOf_in {H H' : Hp} : Same (newOf H H') H' := fun b o e => (newOf_some e).2
/-- a heap that knows nothing of p -/
def hid (p : Addr) (H : Hp) : Hp := fun b => if b = p then none else H b
theorem newOf_hid {H H' : Hp} {p : Addr} {o : HO} (h : H p = some o) : Same (newOf H H') (hid p H') := fun b u e => by
  obtain ⟨a, c⟩ := newOf_some e
  unfold hid
  rw [if_neg (fun z => by rw [z, h] at a; cases a)]
  exact c
theorem hid_p {p : Addr} {H : Hp} : hid p H p = none := if_pos rfl
theorem hid_in {p : Addr} {H : Hp} : Same (hid p H) H := fun b o e => by
  unfold hid at e
  by_cases z : b = p
  · rw [if_pos z] at e
    cases e
  · rw [if_neg z] at e
    exact e
/-- what H₀ does not know may change -/
theorem Same.mut {H₀ H : Hp} {p : Addr} {o : HO} (s : Same H₀ H) (h : H₀ p = none) : Same H₀ (upd H p o) := fun b u e => by
  rw [upd_ne (ne_of_none e h)]
  exact s b u e
theorem Same.new' {H : Hp} {p : Addr} {o : HO} (h : H p = none) : Same H (upd H p o) := (Same.refl H).mut h
def tLit (K : PySem.W.Frag) (d : PyData) : TE := fun _ H Q => ∀ v H', Same H H' → Dq K (newOf H H') v d → Q v H'
def tLitA (K : PySem.W.Frag) (ds : List PyData) : TA := fun _ H Q => ∀ vs H', Same H H' → DqA K (newOf H H') vs ds → Q vs H'
/-- a list whose place is told: it may be changed -/
def tLitL (K : PySem.W.Frag) (ds : List PyData) : TE := fun _ H Q => ∀ r vs H', H r = none → Same H H' → Same H (upd H' r (.lst vs)) → H' r = none → DqA K (newOf H H') vs ds → Q (.ref r) (upd H' r (.lst vs))
section
variable {X : Cx} {pos : Pos}
theorem PE.imp {e : Expr} {t t' : TE} (h : PE X e t) (f : ∀ σ H Q, t' σ H Q → t σ H Q) : PE X e t' := ⟨fun pins s σ H Q I q => h.run pins s σ H Q I (f σ H Q q)⟩
theorem PA.imp {es : List Expr} {t t' : TA} (h : PA X es t) (f : ∀ σ H Q, t' σ H Q → t σ H Q) : PA X es t' := ⟨fun p pins s σ H Q I q => h.run p pins s σ H Q I (f σ H Q q)⟩
theorem pl_int {i j} : PE X (.Constant (.int i) j pos) (tLit X.K (.int i)) := pe_int.imp fun _ H Q q => q _ H (Same.refl H) (.int i)
theorem pl_neg {i j} {p : Pos} : PE X (.UnaryOp .USub (.Constant (.int i) j p) pos) (tLit X.K (.int (-i))) := (pe_un un_neg pe_int).imp fun _ H Q q => ⟨i, rfl, q _ H (Same.refl H) (.int (-i))⟩
theorem pl_bl {b j} : PE X (.Constant (.bool b) j pos) (tLit X.K (.bool b)) := pe_bl.imp fun _ H Q q => q _ H (Same.refl H) (.bl b)
theorem pl_non {j} : PE X (.Constant .none j pos) (tLit X.K .none) := pe_non.imp fun _ H Q q => q _ H (Same.refl H) .non
theorem pl_str {x j} (h : x.length ≤ sizeLine := by decide) : PE X (.Constant (.str x) j pos) (tLit X.K (.str x)) := pe_str.imp fun _ H Q q => q _ H (Same.refl H) (.str x h)
theorem pla_nil : PA X [] (tLitA X.K []) := pa_nil.imp fun _ H Q q => q _ H (Same.refl H) .nil
theorem pla_cons {e : Expr} {es : List Expr} {d : PyData} {ds : List PyData} (h : PE X e (tLit X.K d)) (r : PA X es (tLitA X.K ds)) (he : starEach (e :: es) X.env = (false, eval e X.env) :: starEach es X.env := by rfl) : PA X (e :: es) (tLitA X.K (d :: ds)) :=
  (pa_cons h r he).imp fun σ H Q q v H1 s1 hd vs H2 s2 hds => q _ H2 (s1.trans s2) (.cons (hd.up (newOf_right s2)) (hds.up (newOf_left s1)))
theorem pl_tup {es : List Expr} {k : Nat} {ds : List PyData} (h : PA X es (tLitA X.K ds)) (hz : ds.length ≤ sizeLine := by decide) : PE X (.Tuple es k pos) (tLit X.K (.tuple ds)) :=
  (pe_tup h).imp fun σ H Q q vs H1 s1 hds => ⟨by rw [hds.len]; exact hz, fun p hp => q _ _ (s1.trans (Same.new' hp)) (.tup (SqT.of (newOf_of (s1.free hp) upd_same)) (hds.up (newOf_right (Same.new' hp))))⟩
theorem pl_lst {es : List Expr} {ds : List PyData} (h : PA X es (tLitA X.K ds)) (hz : ds.length ≤ sizeLine := by decide) : PE X (.List es pos) (tLit X.K (.list ds)) :=
  (pe_lst h).imp fun σ H Q q vs H1 s1 hds => ⟨by rw [hds.len]; exact hz, fun p hp => q _ _ (s1.trans (Same.new' hp)) (.lst (SqL.of (newOf_of (s1.free hp) upd_same)) (hds.up (newOf_right (Same.new' hp))))⟩
theorem pl_lstL {es : List Expr} {ds : List PyData} (h : PA X es (tLitA X.K ds)) (hz : ds.length ≤ sizeLine := by decide) : PE X (.List es pos) (tLitL X.K ds) :=
  (pe_lst h).imp fun σ H Q q vs H1 s1 hds => ⟨by rw [hds.len]; exact hz, fun p hp => q p vs H1 (s1.free hp) s1 (s1.trans (Same.new' hp)) hp hds⟩
theorem pl_dct : PE X (.Dict [] [] pos) (tLit X.K (.dict [])) := pe_dnewK.imp fun σ H Q q d hd => q _ _ (Same.new' hd) (.dct (newOf_of hd upd_same))
end
end L2
/-! dict(zip(xs, ys, strict=True)) of two tuples of one length -/
namespace RZS
open PySem
open PySem.Sem (wp)
section
variable {prog : Program} {w : World} {A : Around} {E : Value → Shared → Prop} {s : Shared}
theorem noe_item {j l : Addr} {i : Nat} {vs : Array Value} {x : Value} {Q : Option Value → Shared → Prop} (hj : s.heap.IsTupleIter j l i)
    (hv : s.heap.IsTuple l vs) (hx : vs[i]? = some x) (hQ : ∀ h', h'.IsTupleIter j l (i + 1) → Heap.SameBut j s.heap h' → Q (some x) { s with heap := h' }) :
    wpAny (model prog w) A (Builtin.SmallTypes.nextOrEnd (.ref j)) Q E s := by
  unfold Builtin.SmallTypes.nextOrEnd
  exact wpAny_bind (wpAny_attempt (RZ.nextOf_tuple_item hj hv hx fun h' a b => wpAny_pure (hQ h' a b)))
theorem noe_end {j l : Addr} {i : Nat} {vs : Array Value} {Q : Option Value → Shared → Prop} (hh : A.handled = none) (hj : s.heap.IsTupleIter j l i)
    (hv : s.heap.IsTuple l vs) (hx : vs[i]? = none) (hQ : ∀ h', Heap.ExtBut j s.heap h' → Q none { s with heap := h' }) :
    wpAny (model prog w) A (Builtin.SmallTypes.nextOrEnd (.ref j)) Q E s := by
  unfold Builtin.SmallTypes.nextOrEnd
  refine wpAny_bind (wpAny_attempt (RZ.nextOf_tuple_end hh hj hv hx fun h' e b ⟨o, ho, hc⟩ => ?_))
  exact wpAny_bind (wpAny_isInstance (T := "StopIteration") (b := true) ⟨o, ho, hc⟩ isSubtype_stop (wpAny_pure (hQ h' b)))
abbrev ZipQ (h : Heap) (z TI TO : Addr) (f0 : Value) (f : Bool) : Prop :=
  h.get? z = some { cls := .type "zip", dict := none, data := .fields #[f0, .bool f, .bool true, .ref TI, .ref TO], slots := #[] }
theorem heldQ {z TI TO T : Addr} {f : Bool} {oT : Obj} {Q : Bool → Shared → Prop} (kz : ZipQ s.heap z TI TO (rawInt T) f) (kT : s.heap.get? T = some oT)
    (q : ∀ h', ZipQ h' z TI TO (rawInt T) true → Heap.SameBut z s.heap h' → Q false { s with heap := h' }) : wpAny (model prog w) A (Builtin.SmallTypes.ownedTupleIsFree (.ref z)) Q E s := by
  unfold Builtin.SmallTypes.ownedTupleIsFree
  refine wpAny_bind (wpAny_field kz rfl (x := rawInt T) rfl ?_)
  show wpAny _ _ (loadIfAlive (((T : Nat) : Int).toNat) >>= _) _ _ _
  rw [Int.toNat_natCast]
  refine wpAny_bind (PySem.W.kdx_alive kT ?_)
  simp only [Option.isNone_some, Bool.false_eq_true, if_false]
  refine wpAny_bind (wpAny_field kz rfl (x := .bool f) rfl ?_)
  cases f with
  | true =>
    rw [if_neg (show ¬ ((Value.bool true != Value.bool true) = true) from Bool.false_ne_true)]
    exact wpAny_pure (q s.heap kz (Heap.SameBut.refl _ _))
  | false =>
    rw [if_pos (show (Value.bool false != Value.bool true) = true from rfl)]
    exact wpAny_bind (wpAny_setField_rec kz (by simp) fun g kg sg => wpAny_pure (q g kg sg))
/-- the first pair: the zip's own tuple is free -/
theorem firstQ {z TI TO i1 i2 l1 l2 : Addr} {k1 k2 : Nat} {xs ys : Array Value} {x y a b : Value} {Q : Value → Shared → Prop} (D : ZipApart z TI TO i1 i2 l1 l2)
    (kz : ZipQ s.heap z TI TO .none false) (kI : IsPair s.heap TI (.ref i1) (.ref i2)) (kO : IsPair s.heap TO a b)
    (j1 : s.heap.IsTupleIter i1 l1 k1) (j2 : s.heap.IsTupleIter i2 l2 k2) (m1 : s.heap.IsTuple l1 xs) (m2 : s.heap.IsTuple l2 ys) (hx : xs[k1]? = some x) (hy : ys[k2]? = some y)
    (q : ∀ h', ZipQ h' z TI TO (rawInt s.heap.objs.size) false → IsPair h' TO x y → h'.IsTupleIter i1 l1 (k1 + 1) → h'.IsTupleIter i2 l2 (k2 + 1) → IsPair h' s.heap.objs.size x y →
      (∀ c o, c ≠ z → c ≠ TO → c ≠ i1 → c ≠ i2 → s.heap.get? c = some o → h'.get? c = some o) → Q (.ref s.heap.objs.size) { s with heap := h' }) :
    wpAny (model prog w) A (Builtin.«zip.__next__» ⟨[.ref z], []⟩) (fun fin s' => ∃ v, fin = .done (.ret v) ∧ Q v s') E s := by
  show wpAny _ _ (field (.ref z) 2 >>= _) _ _ _
  refine wpAny_bind (wpAny_field kz rfl (x := .bool true) rfl ?_)
  show wpAny _ _ (field (.ref z) 3 >>= _) _ _ _
  refine wpAny_bind (wpAny_field kz rfl (x := .ref TI) rfl ?_)
  refine wpAny_bind (wpAny_seqItems kI rfl ?_)
  show wpAny _ _ (Builtin.SmallTypes.ownedTupleIsFree (.ref z) >>= _) _ _ _
  refine wpAny_bind ?_
  unfold Builtin.SmallTypes.ownedTupleIsFree
  refine wpAny_bind (wpAny_field kz rfl (x := .none) rfl (wpAny_pure ?_))
  simp only [if_true]
  refine wpAny_bind (wpAny_rule ?_)
  refine wpAny_bind (wpAny_field kz rfl (x := .ref TO) rfl ?_)
  refine wpAny_bind (wpAny_setField_rec kz (by simp) fun g1 z1 e1 => ?_)
  replace z1 : ZipQ g1 z TI TO .ellipsis false := z1
  refine wpAny_bind ?_
  simp only [List.zipIdx_cons, List.zipIdx_nil, List.forIn_cons, List.forIn_nil]
  refine wpAny_bind (wpAny_bind (wpAny_onRaise ?_))
  show wpAny _ _ (Builtin.SmallTypes.nextOrEnd (.ref i1)) _ _ _
  refine noe_item (j1.extBut e1.extBut D.i1z) (m1.extBut e1.extBut D.l1z) hx fun g2 j1' e2 => ?_
  have o2 : IsPair g2 TO a b := e2.extBut _ _ D.TOi1 (e1.extBut _ _ D.TOz kO)
  refine wpAny_bind (wpAny_seqItems o2 rfl ?_)
  refine wpAny_bind (wpAny_updateSeq_pair o2 fun g3 o3 e3 => ?_)
  replace o3 : IsPair g3 TO x b := o3
  refine wpAny_bind (wpAny_letGo (wpAny_pure ?_))
  refine wpAny_bind (wpAny_bind (wpAny_onRaise ?_))
  show wpAny _ _ (Builtin.SmallTypes.nextOrEnd (.ref i2)) _ _ _
  refine noe_item (((j2.extBut e1.extBut D.i2z).extBut e2.extBut D.i12.symm).extBut e3.extBut D.TOi2.symm) (((m2.extBut e1.extBut D.l2z).extBut e2.extBut D.l2i1).extBut e3.extBut D.l2TO) hy fun g4 j2' e4 => ?_
  have o4 : IsPair g4 TO x b := e4.extBut _ _ D.TOi2 o3
  refine wpAny_bind (wpAny_seqItems o4 rfl ?_)
  refine wpAny_bind (wpAny_updateSeq_pair o4 fun g5 o5 e5 => ?_)
  replace o5 : IsPair g5 TO x y := o5
  refine wpAny_bind (wpAny_letGo (wpAny_pure (wpAny_pure ?_)))
  refine wpAny_bind (wpAny_seqItems o5 rfl ?_)
  refine wpAny_bind (wpAny_newTuple ?_)
  have hsz : g5.objs.size = s.heap.objs.size := by rw [e5.1, e4.1, e3.1, e2.1, e1.1]
  have z5 : ZipQ g5 z TI TO .ellipsis false := e5.extBut _ _ D.TOz.symm (e4.extBut _ _ D.i2z.symm (e3.extBut _ _ D.TOz.symm (e2.extBut _ _ D.i1z.symm z1)))
  have k5 : ∀ c o, c ≠ z → c ≠ TO → c ≠ i1 → c ≠ i2 → s.heap.get? c = some o → g5.get? c = some o := fun c o c1 c2 c3 c4 e =>
    e5.extBut _ _ c2 (e4.extBut _ _ c4 (e3.extBut _ _ c2 (e2.extBut _ _ c3 (e1.extBut _ _ c1 e))))
  have a1 : g5.IsTupleIter i1 l1 (k1 + 1) := ((j1'.extBut e3.extBut D.TOi1.symm).extBut e4.extBut D.i12).extBut e5.extBut D.TOi1.symm
  have a2 : g5.IsTupleIter i2 l2 (k2 + 1) := j2'.extBut e5.extBut D.TOi2.symm
  have hzlt : z < g5.objs.size := Heap.lt_size z5
  show wpAny _ _ (Builtin.SmallTypes.ownedTupleHandOut (.ref z) (.ref g5.objs.size) >>= _) _ _ _
  refine wpAny_bind ?_
  unfold Builtin.SmallTypes.ownedTupleHandOut
  have z6 : ZipQ (g5.push { cls := .type "tuple", data := .seq #[x, y] }) z TI TO .ellipsis false := Heap.get?_push_of_some _ z5
  refine wpAny_bind (wpAny_setField_rec z6 (by simp) fun g7 z7 e7 => ?_)
  replace z7 : ZipQ g7 z TI TO (rawInt g5.objs.size) false := z7
  refine wpAny_setField_rec z7 (by simp) fun g8 z8 e8 => ?_
  replace z8 : ZipQ g8 z TI TO (rawInt g5.objs.size) false := z8
  have up : ∀ c o, c ≠ z → g5.get? c = some o → g8.get? c = some o := fun c o c1 e => e8.extBut _ _ c1 (e7.extBut _ _ c1 (Heap.get?_push_of_some _ e))
  have t8 : IsPair g8 g5.objs.size x y := e8.extBut _ _ (Nat.ne_of_gt hzlt) (e7.extBut _ _ (Nat.ne_of_gt hzlt) (Heap.get?_push_size _ rfl))
  rw [hsz] at z8 t8
  refine wpAny_pure ⟨_, rfl, ?_⟩
  show Q (.ref g5.objs.size) _
  rw [hsz]
  exact q g8 z8 (up _ _ D.TOz o5) (a1.at fun o e => up _ o D.i1z e) (a2.at fun o e => up _ o D.i2z e) t8 fun c o c1 c2 c3 c4 e => up c o c1 (k5 c o c1 c2 c3 c4 e)
/-- a later pair: the tuple that was given out stands -/
theorem laterQ {z TI TO T i1 i2 l1 l2 : Addr} {f : Bool} {oT : Obj} {k1 k2 : Nat} {xs ys : Array Value} {x y : Value} {Q : Value → Shared → Prop} (D : ZipApart z TI TO i1 i2 l1 l2)
    (kz : ZipQ s.heap z TI TO (rawInt T) f) (kT : s.heap.get? T = some oT) (kI : IsPair s.heap TI (.ref i1) (.ref i2))
    (j1 : s.heap.IsTupleIter i1 l1 k1) (j2 : s.heap.IsTupleIter i2 l2 k2) (m1 : s.heap.IsTuple l1 xs) (m2 : s.heap.IsTuple l2 ys) (hx : xs[k1]? = some x) (hy : ys[k2]? = some y)
    (q : ∀ h', ZipQ h' z TI TO (rawInt T) true → h'.IsTupleIter i1 l1 (k1 + 1) → h'.IsTupleIter i2 l2 (k2 + 1) → IsPair h' s.heap.objs.size x y →
      (∀ c o, c ≠ z → c ≠ i1 → c ≠ i2 → s.heap.get? c = some o → h'.get? c = some o) → Q (.ref s.heap.objs.size) { s with heap := h' }) :
    wpAny (model prog w) A (Builtin.«zip.__next__» ⟨[.ref z], []⟩) (fun fin s' => ∃ v, fin = .done (.ret v) ∧ Q v s') E s := by
  show wpAny _ _ (field (.ref z) 2 >>= _) _ _ _
  refine wpAny_bind (wpAny_field kz rfl (x := .bool true) rfl ?_)
  show wpAny _ _ (field (.ref z) 3 >>= _) _ _ _
  refine wpAny_bind (wpAny_field kz rfl (x := .ref TI) rfl ?_)
  refine wpAny_bind (wpAny_seqItems kI rfl ?_)
  show wpAny _ _ (Builtin.SmallTypes.ownedTupleIsFree (.ref z) >>= _) _ _ _
  refine wpAny_bind (heldQ kz kT fun g1 z1 e1 => ?_)
  simp only [Bool.false_eq_true, if_false]
  refine wpAny_bind ?_
  rw [← Array.forIn_toList]
  simp only [List.forIn_cons, List.forIn_nil]
  refine wpAny_bind (wpAny_bind (wpAny_holding ?_))
  show wpAny _ _ (Builtin.SmallTypes.nextOrEnd (.ref i1)) _ _ _
  refine noe_item (s := { s with heap := g1 }) (j1.extBut e1.extBut D.i1z) (m1.extBut e1.extBut D.l1z) hx fun g2 j1' e2 => ?_
  refine wpAny_pure ?_
  refine wpAny_bind (wpAny_bind (wpAny_holding ?_))
  show wpAny _ _ (Builtin.SmallTypes.nextOrEnd (.ref i2)) _ _ _
  refine noe_item (s := { s with heap := g2 }) ((j2.extBut e1.extBut D.i2z).extBut e2.extBut D.i12.symm) ((m2.extBut e1.extBut D.l2z).extBut e2.extBut D.l2i1) hy fun g3 j2' e3 => ?_
  refine wpAny_pure (wpAny_pure ?_)
  show wpAny _ _ (newTuple [x, y] >>= _) _ _ _
  refine wpAny_bind (wpAny_newTuple ?_)
  have hsz : g3.objs.size = s.heap.objs.size := by rw [e3.1, e2.1, e1.1]
  have z3 : ZipQ g3 z TI TO (rawInt T) true := e3.extBut _ _ D.i2z.symm (e2.extBut _ _ D.i1z.symm z1)
  have hk : ∀ c o, c ≠ z → c ≠ i1 → c ≠ i2 → s.heap.get? c = some o → g3.get? c = some o := fun c o c1 c2 c3 e => e3.extBut _ _ c3 (e2.extBut _ _ c2 (e1.extBut _ _ c1 e))
  have a1 : g3.IsTupleIter i1 l1 (k1 + 1) := j1'.extBut e3.extBut D.i12
  refine wpAny_pure ⟨_, rfl, ?_⟩
  show Q (.ref g3.objs.size) _
  have hp : IsPair (g3.push { cls := .type "tuple", data := .seq #[x, y] }) g3.objs.size x y := Heap.get?_push_size _ rfl
  rw [hsz] at hp ⊢
  exact q _ (Heap.get?_push_of_some _ z3) (a1.at fun o e => Heap.get?_push_of_some _ e) (j2'.at fun o e => Heap.get?_push_of_some _ e) hp fun c o c1 c2 c3 e => Heap.get?_push_of_some _ (hk c o c1 c2 c3 e)
/-- both at their ends -/
theorem endQ {z TI TO T i1 i2 l1 l2 : Addr} {f : Bool} {oT : Obj} {k1 k2 : Nat} {xs ys : Array Value} {Q : Fin → Shared → Prop} (hh : A.handled = none) (D : ZipApart z TI TO i1 i2 l1 l2)
    (kz : ZipQ s.heap z TI TO (rawInt T) f) (kT : s.heap.get? T = some oT) (kI : IsPair s.heap TI (.ref i1) (.ref i2))
    (j1 : s.heap.IsTupleIter i1 l1 k1) (j2 : s.heap.IsTupleIter i2 l2 k2) (m1 : s.heap.IsTuple l1 xs) (m2 : s.heap.IsTuple l2 ys) (hx : xs[k1]? = none) (hy : ys[k2]? = none)
    (q : ∀ h' e, (∀ c o, c ≠ z → c ≠ i1 → c ≠ i2 → s.heap.get? c = some o → h'.get? c = some o) → (∃ o, h'.get? e = some o ∧ o.cls = .type "StopIteration") → E (.ref e) { s with heap := h' }) :
    wpAny (model prog w) A (Builtin.«zip.__next__» ⟨[.ref z], []⟩) Q E s := by
  show wpAny _ _ (field (.ref z) 2 >>= _) _ _ _
  refine wpAny_bind (wpAny_field kz rfl (x := .bool true) rfl ?_)
  show wpAny _ _ (field (.ref z) 3 >>= _) _ _ _
  refine wpAny_bind (wpAny_field kz rfl (x := .ref TI) rfl ?_)
  refine wpAny_bind (wpAny_seqItems kI rfl ?_)
  show wpAny _ _ (Builtin.SmallTypes.ownedTupleIsFree (.ref z) >>= _) _ _ _
  refine wpAny_bind (heldQ kz kT fun g1 z1 e1 => ?_)
  simp only [Bool.false_eq_true, if_false]
  refine wpAny_bind ?_
  rw [← Array.forIn_toList]
  simp only [List.forIn_cons, List.forIn_nil]
  refine wpAny_bind (wpAny_bind (wpAny_holding ?_))
  show wpAny _ _ (Builtin.SmallTypes.nextOrEnd (.ref i1)) _ _ _
  refine noe_end (s := { s with heap := g1 }) hh (j1.extBut e1.extBut D.i1z) (m1.extBut e1.extBut D.l1z) hx fun g2 e2 => ?_
  refine wpAny_bind ?_
  show wpAny _ _ (forIn ((([Value.ref i1, Value.ref i2] : List Value).drop 1).zipIdx 1) PUnit.unit _ >>= _) _ _ _
  refine wpAny_bind ?_
  simp only [List.drop_succ_cons, List.drop_zero, List.zipIdx_cons, List.zipIdx_nil, List.forIn_cons, List.forIn_nil]
  refine wpAny_bind (wpAny_bind ?_)
  refine noe_end (s := { s with heap := g2 }) hh (((j2.extBut e1.extBut D.i2z).at fun o e => e2 _ o D.i12.symm e)) (((m2.extBut e1.extBut D.l2z)).at fun o e => e2 _ o D.l2i1 e) hy fun g3 e3 => ?_
  rw [if_neg (show ¬ ((none : Option Value).isSome = true) from Bool.false_ne_true)]
  refine wpAny_pure (wpAny_pure (wpAny_bind (wpAny_rule ?_)))
  show wpAny _ _ (newExc (.type "StopIteration") [] >>= _) _ _ _
  refine wpAny_bind ?_
  simp only [newExc, newTuple]
  refine wpAny_bind (wpAny_newObj_type ?_ (by size_fits))
  refine wpAny_bind (m := firstArgMember _ _) (wpAny_of_eq (a := Value.none) (by first | rfl | (simp only [firstArgMember]; rfl)) ?_)
  refine wpAny_newObj_type ?_ (by size_fits)
  simp only [raiseNew]
  refine wpAny_bind (wpAny_handled ?_)
  first | rw [show A.in1.handled = none from hh] | rw [hh]
  refine wpAny_bind (wpAny_pure (wpAny_throw ?_))
  exact q _ _ (fun c o c1 c2 c3 e => Heap.get?_push_of_some _ (Heap.get?_push_of_some _ (e3 _ _ c3 (e2 _ _ c2 (e1.extBut _ _ c1 e))))) ⟨_, Heap.get?_push_size _ rfl, rfl⟩
theorem nextQ_first {z TI TO i1 i2 l1 l2 : Addr} {k1 k2 : Nat} {xs ys : Array Value} {x y a b : Value} {Q : Option Value → Shared → Prop} (D : ZipApart z TI TO i1 i2 l1 l2)
    (kz : ZipQ s.heap z TI TO .none false) (kI : IsPair s.heap TI (.ref i1) (.ref i2)) (kO : IsPair s.heap TO a b)
    (j1 : s.heap.IsTupleIter i1 l1 k1) (j2 : s.heap.IsTupleIter i2 l2 k2) (m1 : s.heap.IsTuple l1 xs) (m2 : s.heap.IsTuple l2 ys) (hx : xs[k1]? = some x) (hy : ys[k2]? = some y)
    (q : ∀ h', ZipQ h' z TI TO (rawInt s.heap.objs.size) false → IsPair h' TO x y → h'.IsTupleIter i1 l1 (k1 + 1) → h'.IsTupleIter i2 l2 (k2 + 1) → IsPair h' s.heap.objs.size x y →
      (∀ c o, c ≠ z → c ≠ TO → c ≠ i1 → c ≠ i2 → s.heap.get? c = some o → h'.get? c = some o) → Q (some (.ref s.heap.objs.size)) { s with heap := h' }) : wpAny (model prog w) A (pyNext (.ref z)) Q E s := by
  have ht : s.TypeIs (.ref z) "zip" := ⟨_, kz, rfl⟩
  unfold pyNext
  exact wpAny_bind (wpAny_attempt (wpAny_callSpecial?_slot (name := Str.ofString "__next__") ht F.slot_zip_next (wpAny_call_entry F.slot_zip_next ht F.entry_zip_next
      (firstQ D kz kI kO j1 j2 m1 m2 hx hy fun h' a1 a2 a3 a4 a5 a6 => wpAny_pure (q h' a1 a2 a3 a4 a5 a6)) (F.args_zip_next_1 _))))
theorem nextQ_later {z TI TO T i1 i2 l1 l2 : Addr} {f : Bool} {oT : Obj} {k1 k2 : Nat} {xs ys : Array Value} {x y : Value} {Q : Option Value → Shared → Prop} (D : ZipApart z TI TO i1 i2 l1 l2)
    (kz : ZipQ s.heap z TI TO (rawInt T) f) (kT : s.heap.get? T = some oT) (kI : IsPair s.heap TI (.ref i1) (.ref i2))
    (j1 : s.heap.IsTupleIter i1 l1 k1) (j2 : s.heap.IsTupleIter i2 l2 k2) (m1 : s.heap.IsTuple l1 xs) (m2 : s.heap.IsTuple l2 ys) (hx : xs[k1]? = some x) (hy : ys[k2]? = some y)
    (q : ∀ h', ZipQ h' z TI TO (rawInt T) true → h'.IsTupleIter i1 l1 (k1 + 1) → h'.IsTupleIter i2 l2 (k2 + 1) → IsPair h' s.heap.objs.size x y →
      (∀ c o, c ≠ z → c ≠ i1 → c ≠ i2 → s.heap.get? c = some o → h'.get? c = some o) → Q (some (.ref s.heap.objs.size)) { s with heap := h' }) : wpAny (model prog w) A (pyNext (.ref z)) Q E s := by
  have ht : s.TypeIs (.ref z) "zip" := ⟨_, kz, rfl⟩
  unfold pyNext
  exact wpAny_bind (wpAny_attempt (wpAny_callSpecial?_slot (name := Str.ofString "__next__") ht F.slot_zip_next (wpAny_call_entry F.slot_zip_next ht F.entry_zip_next
      (laterQ D kz kT kI j1 j2 m1 m2 hx hy fun h' a1 a2 a3 a4 a5 => wpAny_pure (q h' a1 a2 a3 a4 a5)) (F.args_zip_next_1 _))))
theorem nextQ_end {z TI TO T i1 i2 l1 l2 : Addr} {f : Bool} {oT : Obj} {k1 k2 : Nat} {xs ys : Array Value} {Q : Option Value → Shared → Prop} (hh : A.handled = none) (D : ZipApart z TI TO i1 i2 l1 l2)
    (kz : ZipQ s.heap z TI TO (rawInt T) f) (kT : s.heap.get? T = some oT) (kI : IsPair s.heap TI (.ref i1) (.ref i2))
    (j1 : s.heap.IsTupleIter i1 l1 k1) (j2 : s.heap.IsTupleIter i2 l2 k2) (m1 : s.heap.IsTuple l1 xs) (m2 : s.heap.IsTuple l2 ys) (hx : xs[k1]? = none) (hy : ys[k2]? = none)
    (q : ∀ h', (∀ c o, c ≠ z → c ≠ i1 → c ≠ i2 → s.heap.get? c = some o → h'.get? c = some o) → Q none { s with heap := h' }) : wpAny (model prog w) A (pyNext (.ref z)) Q E s := by
  have ht : s.TypeIs (.ref z) "zip" := ⟨_, kz, rfl⟩
  unfold pyNext
  refine wpAny_bind (wpAny_attempt (wpAny_callSpecial?_slot (name := Str.ofString "__next__") ht F.slot_zip_next (wpAny_call_entry F.slot_zip_next ht F.entry_zip_next
      (endQ hh D kz kT kI j1 j2 m1 m2 hx hy fun h' e hk ⟨o, ho, hc⟩ => ?_) (F.args_zip_next_1 _))))
  exact wpAny_bind (wpAny_isInstance (T := "StopIteration") (b := true) ⟨o, ho, hc⟩ isSubtype_stop (wpAny_pure (q _ hk)))
theorem iterQ {z TI TO : Addr} {f0 : Value} {f : Bool} {Q : Value → Shared → Prop} (kz : ZipQ s.heap z TI TO f0 f) (q : Q (.ref z) s) : wpAny (model prog w) A (pyIter (.ref z)) Q E s := by
  have ht : s.TypeIs (.ref z) "zip" := ⟨_, kz, rfl⟩
  refine wpAny_pyIter_slot ht F.slot_zip_iter (wpAny_call_entry F.slot_zip_iter ht F.entry_zip_iter ?_ (F.args_zip_iter_1 _))
  show wpAny _ _ (ret (.ref z)) _ _ s
  exact wpAny_pure ⟨_, rfl, "zip", _, ht, F.slot_zip_next.lookup, q⟩
end
section
variable {prog : Program} {w : World}
theorem argQ (z TI TO i1 i2 l1 l2 : Addr) (D : ZipApart z TI TO i1 i2 l1 l2) (xs ys : Array Value) (hn : 0 < xs.size) (he : xs.size = ys.size) :
    PairArg prog w "zip" z [z, TI, TO, i1, i2, l1, l2] [z, TO, i1, i2] xs.size (fun i k v => xs[i]? = some k ∧ ys[i]? = some v)
      (fun h => ZipQ h z TI TO .none false ∧ IsPair h TI (.ref i1) (.ref i2) ∧ (∃ a b, IsPair h TO a b) ∧ h.IsTupleIter i1 l1 0 ∧ h.IsTupleIter i2 l2 0 ∧ h.IsTuple l1 xs ∧ h.IsTuple l2 ys) where
  type := fun s ok => ⟨_, ok.1, rfl⟩
  notDict := by decide
  keep := fun h h' ok hk => by
    obtain ⟨kz, kI, ⟨a, b, kO⟩, j1, j2, m1, m2⟩ := ok
    exact ⟨hk _ _ kz, hk _ _ kI, ⟨a, b, hk _ _ kO⟩, j1.at fun o e => hk _ o e, j2.at fun o e => hk _ o e, m1.at fun o e => hk _ o e, m2.at fun o e => hk _ o e⟩
  there := fun h ok b hb => by
    obtain ⟨kz, kI, ⟨a, c, kO⟩, ⟨o1, j1, _⟩, ⟨o2, j2, _⟩, ⟨o3, m1, _⟩, ⟨o4, m2, _⟩⟩ := ok
    simp only [List.mem_cons, List.not_mem_nil, or_false] at hb
    rcases hb with rfl | rfl | rfl | rfl | rfl | rfl | rfl
    all_goals first | exact ⟨_, kz⟩ | exact ⟨_, kI⟩ | exact ⟨_, kO⟩ | exact ⟨_, j1⟩ | exact ⟨_, j2⟩ | exact ⟨_, m1⟩ | exact ⟨_, m2⟩
  sub := fun b hb => by simp at hb ⊢; rcases hb with rfl | rfl | rfl | rfl <;> simp
  noKeys := fun A s Q E hA ok h => getAttrOr_miss_zip ok.1 rfl rfl rfl zip_no_keys (by decide +kernel) hA h
  iter := fun A s d Q E hA ok hd hdf h => by
    obtain ⟨kz, kI, ⟨a, b, kO⟩, j1, j2, m1, m2⟩ := ok
    simp only [List.mem_cons, List.not_mem_nil, or_false, not_or] at hdf
    obtain ⟨dz, dTI, dTO, di1, di2, dl1, dl2⟩ := hdf
    refine iterQ kz (h z [z, TO, i1, i2] (fun i h => IsPair h TI (.ref i1) (.ref i2) ∧ h.IsTupleIter i1 l1 i ∧ h.IsTupleIter i2 l2 i ∧ h.IsTuple l1 xs ∧ h.IsTuple l2 ys ∧
      ((i = 0 ∧ ZipQ h z TI TO .none false ∧ ∃ a b, IsPair h TO a b) ∨ ∃ (T : Addr) (f : Bool) (oT : Obj), ZipQ h z TI TO (rawInt T) f ∧ h.get? T = some oT ∧ T ≠ z ∧ T ≠ i1 ∧ T ≠ i2 ∧ T ≠ d)) s.heap s.toks ?_
      ⟨kI, j1, j2, m1, m2, .inl ⟨rfl, kz, a, b, kO⟩⟩ (fun _ _ e => e) fun b hb => .inl hb)
    exact {
      off := fun hm => by
        simp only [List.mem_cons, List.not_mem_nil, or_false] at hm
        rcases hm with e | e | e | e
        · exact dz e
        · exact dTO e
        · exact di1 e
        · exact di2 e
      frame := fun i h₁ h₂ st hk => by
        obtain ⟨kI, j1, j2, m1, m2, kz⟩ := st
        refine ⟨hk _ _ (Ne.symm dTI) kI, j1.at fun o e => hk _ o (Ne.symm di1) e, j2.at fun o e => hk _ o (Ne.symm di2) e, m1.at fun o e => hk _ o (Ne.symm dl1) e, m2.at fun o e => hk _ o (Ne.symm dl2) e, ?_⟩
        rcases kz with ⟨z0, kz, a, b, kO⟩ | ⟨T, f, oT, kz, kT, r1, r2, r3, r4⟩
        · exact .inl ⟨z0, hk _ _ (Ne.symm dz) kz, a, b, hk _ _ (Ne.symm dTO) kO⟩
        · exact .inr ⟨T, f, oT, hk _ _ (Ne.symm dz) kz, hk _ _ r4 kT, r1, r2, r3, r4⟩
      item := fun i s₁ Q₁ E₁ hi st hds hQ => by
        obtain ⟨kI, j1, j2, m1, m2, kz⟩ := st
        have ex := Array.getElem?_eq_getElem hi
        have ey := Array.getElem?_eq_getElem (he ▸ hi)
        have lt : ∀ {c o}, s₁.heap.get? c = some o → s₁.heap.objs.size ≠ c := fun e => Nat.ne_of_gt (Heap.lt_size e)
        have n1 : s₁.heap.objs.size ≠ i1 := let ⟨_, e, _⟩ := j1; lt e
        have n2 : s₁.heap.objs.size ≠ i2 := let ⟨_, e, _⟩ := j2; lt e
        rcases kz with ⟨z0, kz, a, b, kO⟩ | ⟨T, f, oT, kz, kT, r1, r2, r3, r4⟩
        · refine nextQ_first D kz kI kO j1 j2 m1 m2 ex ey fun h' a1 a2 a3 a4 a5 hk => ?_
          exact hQ s₁.heap.objs.size _ _ h' s₁.toks ⟨ex, ey⟩ (.inl ⟨_, a5, rfl, _, rfl⟩)
            ⟨hk _ _ D.TIz D.TITO D.TIi1 D.TIi2 kI, a3, a4, m1.at fun o e => hk _ o D.l1z D.l1TO D.l1i1 D.l1i2 e, m2.at fun o e => hk _ o D.l2z D.l2TO D.l2i1 D.l2i2 e,
              .inr ⟨s₁.heap.objs.size, false, _, a1, a5, lt kz, n1, n2, Nat.ne_of_gt hds⟩⟩
            fun c o hc e => hk c o (fun x => hc (by simp [x])) (fun x => hc (by simp [x])) (fun x => hc (by simp [x])) (fun x => hc (by simp [x])) e
        · refine nextQ_later D kz kT kI j1 j2 m1 m2 ex ey fun h' a1 a3 a4 a5 hk => ?_
          exact hQ s₁.heap.objs.size _ _ h' s₁.toks ⟨ex, ey⟩ (.inl ⟨_, a5, rfl, _, rfl⟩)
            ⟨hk _ _ D.TIz D.TIi1 D.TIi2 kI, a3, a4, m1.at fun o e => hk _ o D.l1z D.l1i1 D.l1i2 e, m2.at fun o e => hk _ o D.l2z D.l2i1 D.l2i2 e,
              .inr ⟨T, true, oT, a1, hk _ _ r1 r2 r3 kT, r1, r2, r3, r4⟩⟩
            fun c o hc e => hk c o (fun x => hc (by simp [x])) (fun x => hc (by simp [x])) (fun x => hc (by simp [x])) e
      done := fun s₁ Q₁ E₁ st hQ => by
        obtain ⟨kI, j1, j2, m1, m2, kz⟩ := st
        rcases kz with ⟨z0, _⟩ | ⟨T, f, oT, kz, kT, r1, r2, r3, r4⟩
        · omega
        · exact nextQ_end hA D kz kT kI j1 j2 m1 m2 (Array.getElem?_eq_none (Nat.le_refl _)) (Array.getElem?_eq_none (by rw [he]; exact Nat.le_refl _)) fun h' hk => hQ h' s₁.toks fun c o hc e => hk c o (fun x => hc (by simp [x])) (fun x => hc (by simp [x])) (fun x => hc (by simp [x])) e }
end
abbrev zH5 (h : Heap) (l1 l2 : Addr) : Heap := (RZ.zipTH4 h l1 l2).push { cls := .type "zip", data := .fields #[.none, .bool false, .bool true, .ref (RZ.zipTH2 h l1 l2).objs.size, .ref (RZ.zipTH3 h l1 l2).objs.size] }
theorem tc_strict (a b c : Value) : checkTypeCall "zip" ⟨[a, b], [(Str.ofString "strict", c)]⟩ = pure () := by kernel_rfl
theorem nc_strict (a b c : Value) : checkBuiltinCall "zip.__new__" ⟨[.type "zip", a, b], [(Str.ofString "strict", c)]⟩ = pure () := by kernel_rfl
theorem oi_strict (x a b c : Value) : argsOk "object.__init__" ⟨[x, a, b], [(Str.ofString "strict", c)]⟩ := by unfold argsOk; kernel_rfl
theorem newQ (l1 l2 : Addr) (xs ys : Array Value) :
    Meets (Builtin.«zip.__new__» ⟨[.type "zip", .ref l1, .ref l2], [(Str.ofString "strict", .bool true)]⟩) (fun _ R s => s.heap.IsTuple l1 xs ∧ s.heap.IsTuple l2 ys ∧
      R (.ok (.ret (.ref (RZ.zipTH4 s.heap l1 l2).objs.size))) { s with heap := zH5 s.heap l1 l2 }) :=
  .of_wp fun prog w A R s h => by
    obtain ⟨hp, g, d, tk, os⟩ := s; obtain ⟨m1, m2, h⟩ := h
    have hsub := sub_zip
    have M1 : Heap.IsTuple (Shared.heap ⟨hp, g, d, tk, os⟩) l1 xs := m1
    have M2 : Heap.IsTuple (Shared.heap ⟨hp.push { cls := .type "tuple_iterator", data := .fields #[.ref l1, .int 0 0] }, g, d, tk, os⟩) l2 ys := Heap.IsTuple.push m2 _
    have e2 : (Str.ofString "strict" != ("strict" : Str)) = false := by decide +kernel
    wp_walk using wpAny_pyIter_tuple M1, wpAny_pyIter_tuple M2
    exact ⟨_, rfl, h⟩
end RZS
namespace RZS
open PySem
section
variable {prog : Program} {w : World} {A : Around} {E : Value → Shared → Prop} {s : Shared}
theorem callQ {l1 l2 : Addr} {xs ys : Array Value} {Q : Value → Shared → Prop} (m1 : s.heap.IsTuple l1 xs) (m2 : s.heap.IsTuple l2 ys)
    (q : ∀ h', ZipQ h' (s.heap.objs.size + 4) (s.heap.objs.size + 2) (s.heap.objs.size + 3) .none false → IsPair h' (s.heap.objs.size + 2) (.ref s.heap.objs.size) (.ref (s.heap.objs.size + 1)) →
      IsPair h' (s.heap.objs.size + 3) .none .none → h'.IsTupleIter s.heap.objs.size l1 0 → h'.IsTupleIter (s.heap.objs.size + 1) l2 0 → h'.objs.size = s.heap.objs.size + 5 →
      (∀ c o, s.heap.get? c = some o → h'.get? c = some o) → Q (.ref (s.heap.objs.size + 4)) { s with heap := h' }) :
    wpAny (model prog w) A (call (.type "zip") [.ref l1, .ref l2] [(Str.ofString "strict", .bool true)]) Q E s := by
  refine callType_newKw F.called_zip (by decide) (tc_strict _ _ _) (nc_strict _ _ _) (fun x => oi_strict x _ _ _) F.entry_zip_new (newQ l1 l2 xs ys) ⟨m1, m2, ?_⟩
  have n1 : (RZ.zipTH1 s.heap l1).objs.size = s.heap.objs.size + 1 := Heap.size_push ..
  have n2 : (RZ.zipTH2 s.heap l1 l2).objs.size = s.heap.objs.size + 2 := by rw [Heap.size_push, n1]
  have n3 : (RZ.zipTH3 s.heap l1 l2).objs.size = s.heap.objs.size + 3 := by rw [Heap.size_push, n2]
  have n4 : (RZ.zipTH4 s.heap l1 l2).objs.size = s.heap.objs.size + 4 := by rw [Heap.size_push, n3]
  have n5 : (zH5 s.heap l1 l2).objs.size = s.heap.objs.size + 5 := by rw [Heap.size_push, n4]
  have g5 : (zH5 s.heap l1 l2).get? (RZ.zipTH4 s.heap l1 l2).objs.size = some _ := Heap.get?_push_size _ rfl
  have g4 : (zH5 s.heap l1 l2).get? (RZ.zipTH3 s.heap l1 l2).objs.size = some _ := Heap.get?_push_of_some _ (Heap.get?_push_size _ rfl)
  have g3 : (zH5 s.heap l1 l2).get? (RZ.zipTH2 s.heap l1 l2).objs.size = some _ := Heap.get?_push_of_some _ (Heap.get?_push_of_some _ (Heap.get?_push_size _ rfl))
  have g2 : (zH5 s.heap l1 l2).get? (RZ.zipTH1 s.heap l1).objs.size = some _ := Heap.get?_push_of_some _ (Heap.get?_push_of_some _ (Heap.get?_push_of_some _ (Heap.get?_push_size _ rfl)))
  have g1 : (zH5 s.heap l1 l2).get? s.heap.objs.size = some _ := Heap.get?_push_of_some _ (Heap.get?_push_of_some _ (Heap.get?_push_of_some _ (Heap.get?_push_of_some _ (Heap.get?_push_size _ rfl))))
  show _ ∧ _
  rw [n2, n3, n4] at g5
  rw [n1, n2] at g3
  rw [n3] at g4
  rw [n1] at g2
  rw [n4]
  exact ⟨⟨_, g5, rfl⟩, q _ g5 g3 g4 ⟨_, g1, rfl, rfl⟩ ⟨_, g2, rfl, rfl⟩ n5 fun c o x => Heap.get?_push_of_some _ (Heap.get?_push_of_some _ (Heap.get?_push_of_some _ (Heap.get?_push_of_some _ (Heap.get?_push_of_some _ x))))⟩
end
end RZS
namespace L2
open PySem PySem.Spec PyProof.Rows
theorem pairAt {α β : Type} {F : α → β → Prop} : ∀ {xs : List α} {ys : List β} {i : Nat} {x : α}, Paired F xs ys → xs[i]? = some x → ∃ y, ys[i]? = some y ∧ F x y
  | _, _, i, _, .nil, e => by simp at e
  | _, _, 0, _, .cons h _, e => by simp at e; subst e; exact ⟨_, rfl, h⟩
  | _, _, i + 1, x, .cons _ t, e => by
    obtain ⟨y, e1, e2⟩ := pairAt t (i := i) (x := x) (by simpa using e)
    exact ⟨y, by simpa using e1, e2⟩
theorem zip_KV : ∀ {ks : List Key} {ws : List V} {us : List Value}, Vals ws us → KV (ks.zip ws) (ks.zip us)
  | [], _, _, _ => by simp only [List.zip_nil_left]; exact .nil
  | _ :: _, _, _, .nil => by simp only [List.zip_nil_right]; exact .nil
  | k :: ks, _, _, .cons h t => .cons ⟨rfl, h⟩ (zip_KV (ks := ks) t)
/-- dict(zip(a, b, strict=True)), a a tuple of keys, b a tuple of as many values -/
def tDZip (K : PySem.W.Frag) (ta : TA) : TE := fun σ H Q => ta σ H fun vs H1 => ∃ (a b : Addr) (ks : List Key) (ws : List V), vs = [.ref a, .ref b] ∧ SqT K H1 a (ks.map kV) ∧ SqT K H1 b ws ∧ ks.length = ws.length ∧ 0 < ks.length ∧
  ∀ p, H1 p = none → Q (.ref p) (upd H1 p (.dK (mergeK [] (ks.zip ws))))
theorem pe_dzip {X : Cx} {e1 e2 : Expr} {ta : TA} {p p2 q pos cp kp : Pos} {ck : Nat} (hcalm : X.calm = true) (hg : Gl X "dict") (hm : X.mg "dict" = none) (hg2 : Gl X "zip") (hm2 : X.mg "zip" = none) (ha : PA X [e1, e2] ta)
    (he : starEach [e1, e2] X.env = (false, eval e1 X.env) :: starEach [e2] X.env := by rfl) (hpl : (backTo q (starEach [e1, e2] X.env)).any (·.1) = false := by rfl) :
    PE X (.Call (.Name "dict" p) [.Call (.Name "zip" p2) [e1, e2] [⟨some "strict", .Constant (.bool true) ck cp, kp⟩] q] [] pos) (tDZip X.K ta) := by
  refine ⟨fun pins s σ H Q I h => ?_⟩
  refine Call_ (ld_blt I hg hm (show bootBuiltins "dict" = some (.type "dict") from by decide +kernel) ?_)
  refine PyProof.Rows.callWith_type1 (PyProof.Rows.args_cons ?_ rfl) rfl rfl
  refine wpAny_Call_Name_kw (ld_blt I hg2 hm2 (show bootBuiltins "zip" = some (.type "zip") from by decide +kernel) ?_)
  refine PySem.W.callWith_of (P := fun _ => True) (by rw [hpl]; rfl) (fun _ _ => ⟨.machine, .inr (.inl rfl), .now⟩) (evalArgs_kw2 (by rfl) (thn (ha.run q pins s σ H _ I h) fun us s1 ⟨vs, H1, I1, r, q1⟩ => ?_) he)
  refine thn ((pk_cons (nm := some "strict") (kpos := kp) (pe_bl (X := X) (b := true) (j := ck) (pos := cp)) pk_nil).run q pins s1 σ H1 (fun zs H2 => zs = [.bl true] ∧ H2 = H1) I1 ⟨rfl, rfl⟩) fun ws s2 ⟨zs, H2, I2, r2, hz⟩ => ⟨trivial, ?_⟩
  obtain ⟨ez, eH⟩ := hz
  subst eH ez
  obtain ⟨u, eu, ru⟩ := vals1 r2
  subst eu
  cases ru
  obtain ⟨a, b, ks, vs2, ev, hqa, hqb, hlen, hpos, q1⟩ := q1
  subst ev
  obtain ⟨ua, ub, eu, ra, rb⟩ := vals2 r
  subst eu
  cases ra
  cases rb
  obtain ⟨its, rv, ht, hs1⟩ := I2.tuple hqa
  obtain ⟨jts, rw', ht2, hs2⟩ := I2.tuple hqb
  have l1 : its.length = ks.length := by rw [← rv.length, List.length_map]
  have l2 : jts.length = ks.length := by rw [← rw'.length, hlen]
  have a1 : a < s2.heap.objs.size := ht.lt
  have a2 : b < s2.heap.objs.size := ht2.lt
  have t1 : Heap.IsTuple s2.heap a its.toArray := ht
  have t2 : Heap.IsTuple s2.heap b jts.toArray := ht2
  refine RZS.callQ (xs := its.toArray) (ys := jts.toArray) t1 t2 fun h' hz hI hO j1 j2 hsz hk => ?_
  refine PyProof.Rows.args_nil ?_
  have P := RZS.argQ (prog := X.prog) (w := X.w) _ _ _ _ _ a b (zipApart_new a1 a2) its.toArray jts.toArray (by simpa [l1] using hpos) (by simp [l1, l2])
  refine PySem.call_dict_pairs (knd := mixKind X.prog X.w) (kvs := ks.zip jts) P (I2.ok.hd hcalm) ⟨hz, hI, ⟨_, _, hO⟩, j1, j2, t1.at fun o e => hk _ o e, t2.at fun o e => hk _ o e⟩ ?_ (by simp only [List.size_toArray, l1]; omega) fun h'' tk hd hk2 => ?_
  · refine ⟨by simp [l1, l2], fun i key v hr => ?_⟩
    obtain ⟨e1, e2⟩ := hr
    rw [List.getElem?_toArray] at e1 e2
    have hi : i < ks.length := by rw [← l1]; exact (List.getElem?_eq_some_iff.mp e1).1
    obtain ⟨k, ek⟩ : ∃ k, ks[i]? = some k := ⟨ks[i], List.getElem?_eq_getElem hi⟩
    obtain ⟨u, eu, ru⟩ := pairAt rv (i := i) (x := kV k) (by rw [List.getElem?_map, ek]; rfl)
    rw [e1] at eu
    cases eu
    exact ⟨k, List.getElem?_zip_eq_some.mpr ⟨ek, e2⟩, kV_is ru⟩
  · have bg : sysModules < s2.heap.objs.size := I2.big
    have k0 : ∀ c o, s2.heap.get? c = some o → h''.get? c = some o := fun c o e => hk2 c o (by
      have lt : c < s2.heap.objs.size := Heap.lt_size e
      simp only [List.mem_cons, List.not_mem_nil, or_false, not_or]
      exact ⟨Nat.ne_of_lt (Nat.lt_of_lt_of_le lt (Nat.le_add_right _ _)), Nat.ne_of_lt (Nat.lt_of_lt_of_le lt (Nat.le_add_right _ _)), Nat.ne_of_lt lt, Nat.ne_of_lt (Nat.lt_of_lt_of_le lt (Nat.le_add_right _ _))⟩) (hk _ _ e)
    have hm : (h'.objs.size == sysModules) = false := beq_eq_false_iff_ne.mpr (by rw [hsz]; exact Nat.ne_of_gt (Nat.lt_of_lt_of_le bg (Nat.le_add_right _ _)))
    have hl : (mergeK [] (ks.zip vs2)).length ≤ sizeLine := by
      refine Nat.le_trans (length_mergeK _ []) ?_
      simp only [List.length_nil, List.length_zip, Nat.zero_add, ← hlen, Nat.min_self]
      omega
    exact ⟨.ref h'.objs.size, upd H2 h'.objs.size (.dK (mergeK [] (ks.zip vs2))), I2.laid (t' := tk) k0 (by rw [hsz]; omega) (show ObjOk X.prog X.w _ _ _ (.dK (mergeK [] (ks.zip vs2))) from ⟨hl, hm, merged [] (ks.zip jts), KV.merge (zip_KV rw') .nil, hd⟩), rfl, q1 _ (I2.hok.fresh (by rw [hsz]; omega))⟩
end L2
namespace L2
open PySem PySem.Spec PyProof.Rows
/-! ### == and != by an own __eq__ -/
inductive TyI (K : PySem.W.Frag) (H : Hp) : V → Value → Prop
  | ins {b C dx : Addr} {fs : List (Str × V)} : H b = some (.ins C dx fs) → TyI K H (.ref b) (.ref C)
  | non : TyI K H .non (.type "NoneType")
  | bl (b : Bool) : TyI K H (.bl b) (.type "bool")
  | int (i : Int) : TyI K H (.int i) (.type "int")
  | str (x : Str) : TyI K H (.str x) (.type "str")
  | lst {b : Addr} {xs : List V} : SqL K H b xs → TyI K H (.ref b) (.type "list")
  | tup {b : Addr} {xs : List V} : SqT K H b xs → TyI K H (.ref b) (.type "tuple")
section
variable {X : Cx} {pins : List (Addr × Obj)} {σ : St} {H : Hp} {s : Shared}
theorem TyI.looks {y : V} {u tb : Value} (I : Inv X pins σ H s) (t : TyI X.K H y tb) (r : RelV y u) (M : Model) : PySem.W.Looks M s.heap (typeOf u) tb := by
  cases t with
  | ins h =>
    cases r
    obtain ⟨mA, J, _⟩ := ins_get I.hok h
    obtain ⟨od, J, _⟩ := J.look
    exact J.type
  | non => cases r; exact .now
  | bl b => cases r; exact .now
  | int i => obtain ⟨t, rfl⟩ := r; exact .now
  | str x => obtain ⟨t, rfl⟩ := r; exact .now
  | lst h =>
    cases r
    obtain ⟨its, rv, ⟨o, n, ho, hc, _, hd⟩, _⟩ := I.list h
    exact hc ▸ (PySem.W.Looks.ld ho).andThen .now
  | tup h =>
    cases r
    obtain ⟨its, rv, ⟨o, ho, hc, n, hd⟩, _⟩ := I.tuple h
    exact hc ▸ (PySem.W.Looks.ld ho).andThen .now
/-- the call of the own method, somewhere below the running body -/
theorem own_call {CX : CXT} {n : Nat} {f : Addr} {fd : FuncData} {ps : List Str} {sp : Sp} {E : XK} {A : Around} {vs : List V} {us : List Value} {Q : VK} (F : FnOk X.prog X.w X.K X.mg X.base CX n f fd ps sp) (hb : Binds X.K fd ps []) (hx : Passes CX X E)
    (sb : Sub X n A) (I : Inv X pins σ H s) (r : Vals vs us) (h : sp vs H Q E) : wpAny (model X.prog X.w) A (call (.ref f) us) (EP X pins σ Q) X.xe s := by
  have e0 : Env0 X.prog X.w X.K X.mg X.base A X.stack s H := by
    have e := I.env0
    exact ⟨by rw [sb.fr]; exact e.frames, e.mod, e.bs, e.bsz, e.funs, e.frf, e.hok, e.bare⟩
  have hl : us.length = ps.length := r.length ▸ F.len _ _ _ _ h
  refine wpAny_call (codeAny_mono (F.run A X.stack s H ⟨us, []⟩ us vs Q E sb.room e0 (by
    have := hb s us I.kIn (by simpa using hl)
    simpa using this) r h) fun r s' hq => ?_)
  match r, hq with
  | .error e, hq => exact hx pins σ H s e s' I hq
  | .ok (.ret u), hq => exact I.after hq
  | .ok .next, hq => exact False.elim hq
  | .ok .brk, hq => exact False.elim hq
  | .ok .cont, hq => exact False.elim hq
end
section
variable {X : Cx} {CX : CXT} {n : Nat} {C f : Addr} {fd : FuncData} {ps : List Str} {sp : Sp} {E : XK}
def rOwnEq (K : PySem.W.Frag) (C : Addr) (sp : Sp) (E : XK) : R2 := fun x y H Q => ∃ (a dx : Addr) (fs : List (Str × V)) (tb : Value), x = .ref a ∧ H a = some (.ins C dx fs) ∧ TyI K H y tb ∧ PySem.W.notFirst K C tb = true ∧
  sp [x, y] H (fun v H' => ∃ c, v = .bl c ∧ Q (.bl c) H') E
def rOwnNe (K : PySem.W.Frag) (C : Addr) (sp : Sp) (E : XK) : R2 := fun x y H Q => ∃ (a dx : Addr) (fs : List (Str × V)) (tb : Value), x = .ref a ∧ H a = some (.ins C dx fs) ∧ TyI K H y tb ∧ PySem.W.notFirst K C tb = true ∧
  sp [x, y] H (fun v H' => ∃ c, v = .bl c ∧ Q (.bl (!c)) H') E
theorem op_ownEq (F : FnOk X.prog X.w X.K X.mg X.base CX n f fd ps sp) (hs : PySem.W.findIn X.K (.ref C) "__eq__" = some (some (.ref f))) (hf : PySem.W.isFn X.K (.ref f) = true) (hb : Binds X.K fd ps []) (hx : Passes CX X E) (hr : Room n X.A) :
    OpR X (compareOp .Eq) (rOwnEq X.K C sp E) := by
  intro pins s σ H x y v u Q I rx ry h
  obtain ⟨a, dx, fs, tb, rfl, ha, ht, hn, h⟩ := h
  have r2 : Vals [V.ref a, y] [v, u] := .cons rx (.cons ry .nil)
  cases rx
  obtain ⟨mA, J, _⟩ := ins_get I.hok ha
  obtain ⟨od, J, _⟩ := J.look
  obtain ⟨m, hF⟩ := I.fr
  show wpAny (model X.prog X.w) X.A (richCompare .Eq (.ref a) u) (EP X pins σ Q) X.xe s
  refine PySem.W.cmp_K (op := .Eq) (tb := tb) hr.units0 hF I.ok.mod.kin J (ht.looks I ry _) hn hs hf ?_
  refine wpAny_mono (own_call F hb hx ⟨hr, rfl⟩ I r2 h) (fun w s' q => ?_) fun _ _ e => e
  obtain ⟨z, H', I', rz, c, rfl, q⟩ := q
  cases rz
  exact ⟨.bl c, H', I', rfl, q⟩
theorem op_ownNe (F : FnOk X.prog X.w X.K X.mg X.base CX n f fd ps sp) (hs : PySem.W.findIn X.K (.ref C) "__eq__" = some (some (.ref f))) (hf : PySem.W.isFn X.K (.ref f) = true) (hne : PySem.W.findIn X.K (.ref C) "__ne__" = some (some (.builtin "object.__ne__")))
    (hob : PySem.W.mroIn X.K C (.type "object") = some true) (hb : Binds X.K fd ps []) (hx : Passes CX X E) (hr : Room (n + 1) X.A) :
    OpR X (compareOp .NotEq) (rOwnNe X.K C sp E) := by
  intro pins s σ H x y v u Q I rx ry h
  obtain ⟨a, dx, fs, tb, rfl, ha, ht, hn, h⟩ := h
  have r2 : Vals [V.ref a, y] [v, u] := .cons rx (.cons ry .nil)
  cases rx
  obtain ⟨mA, J, _⟩ := ins_get I.hok ha
  obtain ⟨od, J, _⟩ := J.look
  obtain ⟨m, hF⟩ := I.fr
  have KX := I.kIn
  have sb : Sub X (n + 1) X.A := ⟨hr, rfl⟩
  have inner : wpAny (model X.prog X.w) X.A (call (.builtin "object.__ne__") [.ref a, u]) (PySem.W.CmpBack (EP X pins σ Q)) X.xe s := by
    refine wpAny_call (codeAny_call_builtin PySem.F.cmp_object.ne.plain PySem.F.cmpEntry_ne (PySem.W.check_slot PySem.F.cmpKind_ne PySem.F.cmpSplit_ne (J.type.andThen (PySem.W.looks_mroIn KX hob)) (PySem.F.cmpArgs_ne _ _) ?_))
    unfold Builtin.«object.__ne__»
    refine wpAny_bind (m := slotArgs "__ne__" 1 ⟨[.ref a, u], []⟩) (wpAny_of_eq (a := (Value.ref a, [u])) rfl ?_)
    refine wpAny_bind (wpAny_cRoomFor sb.in1.room.units0 ?_)
    refine wpAny_bind (PySem.W.ifBound_K KX J hs hf ?_)
    refine wpAny_mono (own_call F hb hx sb.in1 I r2 h) (fun w s' q => ?_) fun _ _ e => e
    obtain ⟨z, H', I', rz, c, rfl, q⟩ := q
    cases rz
    refine wpAny_bind (wpAny_truthy_bool (wpAny_pure ?_))
    exact ⟨.bl (!c), H', I', rfl, q⟩
  have one : wpAny (model X.prog X.w) X.A (tryCompare (.ref a) "__ne__" u) (fun r s' => ∃ v, r = some v ∧ EP X pins σ Q v s') X.xe s := by
    have fin : wpAny (model X.prog X.w) X.A (call (.builtin "object.__ne__") ([.ref a] ++ [u]) >>= fun v => pure (some v)) (fun r s' => wpAny (model X.prog X.w) X.A (match r with
        | some .notImplemented | none => pure none
        | some v => pure (some v)) (fun r s' => ∃ v, r = some v ∧ EP X pins σ Q v s') X.xe s') X.xe s :=
      wpAny_bind (wpAny_mono inner (fun v s' hv => wpAny_pure (by cases v <;> first | exact hv.elim | exact wpAny_pure ⟨_, rfl, hv⟩)) fun _ _ h' => h')
    unfold tryCompare
    refine wpAny_bind ?_
    simp only [callSpecialIfBound?, bindSpecialIfBound?]
    refine wpAny_holding (wpAny_bind (wpAny_bind (wpAny_bind (J.type.here ((PySem.W.looks_findIn KX hne).here ?_)))))
    simp only [PySem.F.cmp_object.ne.bind]
    refine wpAny_bind (wpAny_askSetting (wpAny_ite ?_))
    split
    · exact wpAny_bind (wpAny_pure (wpAny_pure fin))
    · exact wpAny_tryCatch (wpAny_bind (wpAny_pure (wpAny_pure fin)))
  show wpAny (model X.prog X.w) X.A (richCompare .NotEq (.ref a) u) (EP X pins σ Q) X.xe s
  unfold richCompare
  simp only [oneThing_ref]
  refine wpAny_holding (wpAny_bind (wpAny_cRoomFor hr.units0 ?_))
  refine wpAny_bind (J.type.here (wpAny_bind ((ht.looks I ry _).here ?_)))
  split
  · rename_i q
    have e : PySem.W.subIn X.K tb (.ref C) = some false := by
      rcases Bool.or_eq_true_iff.mp hn with e | e
      · rw [beq_iff_eq.mp e] at q; simp at q
      · exact beq_iff_eq.mp e
    refine wpAny_bind ((PySem.W.looks_subIn KX e).here ?_)
    simp only [Bool.false_eq_true, if_false]
    refine wpAny_bind (wpAny_mono one (fun r s' z => ?_) fun _ _ e => e)
    obtain ⟨v, rfl, hq⟩ := z
    exact wpAny_pure hq
  · refine wpAny_bind (wpAny_pure ?_)
    simp only [Bool.false_eq_true, if_false]
    refine wpAny_bind (wpAny_mono one (fun r s' z => ?_) fun _ _ e => e)
    obtain ⟨v, rfl, hq⟩ := z
    exact wpAny_pure hq
end
end L2
namespace L2
open PySem PySem.Spec PyProof.Rows
/-! ### == of two dicts with the same keys, their values data -/
theorem valV_mem {κ : Type} [DecidableEq κ] : ∀ {kvs : List (κ × V)}, (kvs.map (·.1)).Nodup → ∀ p ∈ kvs, valV kvs p.1 = some p.2
  | [], _, p, h => by cases h
  | q :: kvs, hn, p, h => by
    rw [List.map_cons, List.nodup_cons] at hn
    rcases List.mem_cons.mp h with rfl | h
    · simp [valV]
    · have hne : q.1 ≠ p.1 := fun e => hn.1 (e ▸ List.mem_map_of_mem h)
      have := valV_mem hn.2 p h
      unfold valV at this ⊢
      rw [List.find?_cons_of_neg (by simpa using hne)]
      exact this
theorem putK_fresh {κ : Type} [DecidableEq κ] {kvs : List (κ × V)} {k : κ} {v : V} (h : k ∉ kvs.map (·.1)) : putK kvs k v = kvs ++ [(k, v)] := by
  unfold putK
  rw [if_neg]
  simp only [List.any_eq_true, decide_eq_true_eq, not_exists, not_and]
  intro p hp e
  exact h (e ▸ List.mem_map_of_mem hp)
theorem mergeK_new : ∀ {more kvs : List (Key × V)}, ((kvs ++ more).map (·.1)).Nodup → mergeK kvs more = kvs ++ more
  | [], kvs, _ => by simp [mergeK]
  | p :: more, kvs, h => by
    have h2 : ((kvs ++ [p] ++ more).map (·.1)).Nodup := by simpa using h
    have h1 : p.1 ∉ kvs.map (·.1) := by
      rw [List.map_append, List.nodup_append] at h
      intro hm
      exact h.2.2 _ hm _ (by simp) rfl
    show mergeK (putK kvs p.1 p.2) more = _
    rw [putK_fresh h1, mergeK_new h2]
    simp
theorem zip_keys {κ : Type} : ∀ {ks : List κ} {vs : List V}, ks.length = vs.length → (ks.zip vs).map (·.1) = ks
  | [], _, _ => by simp
  | k :: ks, v :: vs, h => by simp [zip_keys (ks := ks) (vs := vs) (by simpa using h)]
theorem hitsD {X : Cx} {pins : List (Addr × Obj)} {σ : St} {H : Hp} {s : Shared} {A : Around} (I : Inv X pins σ H s) (hu : A.units + 64 < cLine) {ls : List (Key × V)} {vb : List (Key × Value)} (rb : KV ls vb) :
    ∀ {ks : List Key} {vs ws : List V} {ds es : List PyData} {va : List (Key × Value)}, ks.length = vs.length → ks.length = ws.length → DpAll X.K H vs ds → DpAll X.K H ws es → (∀ d ∈ ds, SeqAt.shaped d = true) → (∀ d ∈ es, SeqAt.shaped d = true) →
      (∀ p ∈ ks.zip ws, valV ls p.1 = some p.2) → KV (ks.zip vs) va → PySem.W.KeqHitsP X.prog X.w A s vb va (PyData.eqvAll ds es)
  | [], [], [], _, _, _, _, _, .nil, .nil, _, _, _, r => by cases r; exact .nil
  | k :: ks, v :: vs, w :: ws, _, _, _, hl, hl2, .cons (d := d) (ds := ds) hd hds, .cons (d := e) (ds := es) he hes, sd, se, hv, r => by
    unfold KV at r
    rw [List.zip_cons_cons] at r
    cases r with
    | @cons _ q _ qs h t =>
      obtain ⟨key, u⟩ := q
      obtain ⟨h1, h2⟩ := h
      cases (show k = key from h1)
      have hv0 := hv (k, w) (by simp)
      have rr : RelO (some w) (valueAt vb k) := by rw [← hv0]; exact rb.val k
      obtain ⟨y, hy, ry⟩ := rr.some_of
      obtain ⟨as, r1⟩ := Dp.reads I d v u hd h2
      obtain ⟨bs, r2⟩ := Dp.reads I e w y he ry
      have s1 := sd d (by simp)
      have s2 := se e (by simp)
      exact .hit hy (SeqAt.eqAt_reads d e A s u y as bs r1 r2 (SeqAt.canLay_of_shaped s1) (SeqAt.canLay_of_shaped s2) (SeqAt.room_of_shaped s1 hu)).eqP (hitsD I hu rb (by simpa using hl) (by simpa using hl2) hds hes (fun d hd => sd d (by simp [hd])) (fun d hd => se d (by simp [hd])) (fun p hp => hv p (by simp [hp])) t)
def rEqDk (K : PySem.W.Frag) : R2 := fun x y H Q => ∃ (a b : Addr) (ks : List Key) (vs ws : List V) (ds es : List PyData), x = .ref a ∧ y = .ref b ∧ H a = some (.dK (ks.zip vs)) ∧ H b = some (.dK (ks.zip ws)) ∧ ks.Nodup ∧ ks.length = vs.length ∧ ks.length = ws.length ∧
  DpAll K H vs ds ∧ DpAll K H ws es ∧ (∀ d ∈ ds, SeqAt.shaped d = true) ∧ (∀ d ∈ es, SeqAt.shaped d = true) ∧ Q (.bl (PyData.eqvAll ds es)) H
theorem op_eqDk {X : Cx} (hu : X.A.units + 65 < cLine) : OpR X (compareOp .Eq) (rEqDk X.K) := by
  intro pins s σ H x y v u Q I rx ry h
  obtain ⟨a, b, ks, vs, ws, ds, es, rfl, rfl, ha, hb, hn, l1, l2, hd, he, sd, se, q⟩ := h
  cases rx
  cases ry
  obtain ⟨_, ya, va, ra, da⟩ := (show ObjOk X.prog X.w H s.heap a (.dK (ks.zip vs)) from I.hok a _ ha)
  obtain ⟨_, yb, vb, rb, db⟩ := (show ObjOk X.prog X.w H s.heap b (.dK (ks.zip ws)) from I.hok b _ hb)
  refine PySem.W.rcP_dicts (knd := mixKind X.prog X.w) (r := PyData.eqvAll ds es) ya yb da db (by omega) (fun _ => hitsD I (A := X.A.in1) (by show X.A.units + 1 + 64 < cLine; omega) rb l1 l2 hd he sd se (valV_mem (by rw [zip_keys l2]; exact hn)) ra) _ _ ?_
  have e : va.length = vb.length := by rw [← ra.length, ← rb.length, List.length_zip, List.length_zip, ← l1, ← l2]
  rw [show (va.length == vb.length && PyData.eqvAll ds es) = PyData.eqvAll ds es from by rw [e]; simp]
  exact ⟨.bl _, H, I, rfl, q⟩
end L2
namespace MCH
open PySem PySem.Spec PyProof.Rows L2 PySem.W He
/-! ### properties by names -/
/-- a property of a class: the class, its name, its getter -/
structure PD where
  cls : Str
  prop : Str
  qual : Str
  st : Stmt
def ppa (K : Frag) (x : PD) : Addr := ma K (ga K x.cls) x.prop
def pga (K : Frag) (x : PD) : Addr := match recIn K (ppa K x) "property" with
  | some (.ref g :: _) => g
  | _ => 0
def pFn (K : Frag) (x : PD) : FnW := match K.lookup (pga K x) with
  | some ⟨_, _, .func fd, _⟩ => some (fd.name, fd.qualname, fd.params, fd.body, fd.scope, fd.globals, fd.closure, fd.builtins)
  | _ => none
def PD.val (x : PD) : FnW := some (x.prop, x.qual, defArgs x.st, .stmts (defBody x.st), defScope x.st, mainGlobals, [], builtinsNs)
def pB (K : Frag) (x : PD) : Bool := eqO (findIn K (.ref (ga K x.cls)) x.prop) (some (some (.ref (ppa K x)))) && (eqO (specialIn K (.ref (ppa K x)) "__get__") (some (some (.builtin "property.__get__"))) && (decide (takesIn K (.ref (ppa K x)) = some true) &&
  ((match recIn K (ppa K x) "property" with | some (.ref _ :: _) => true | _ => false) && (keepIn K (.ref (pga K x)) && (match K.lookup (pga K x) with
    | some ⟨_, _, .func fd, _⟩ => codeIn K fd.code x.qual && dflB K fd.defaults []
    | _ => false)))))
theorem pB_ok {K : Frag} {x : PD} (e : pFn K x = x.val) (c : pB K x = true) : PropOf K (ga K x.cls) x.prop (ppa K x) (pga K x) ∧ ∃ fd, FunD K x.prop x.qual (defArgs x.st) (defBody x.st) (defScope x.st) [] [] (pga K x) fd := by
  obtain ⟨c1, c⟩ := ba c
  obtain ⟨c2, c⟩ := ba c
  obtain ⟨c3, c⟩ := ba c
  obtain ⟨c4, c⟩ := ba c
  obtain ⟨kp, c⟩ := ba c
  refine ⟨⟨eqO_ok c1, eqO_ok c2, of_decide_eq_true c3, ?_⟩, ?_⟩
  · unfold pga
    split at c4
    · rename_i g r q
      rw [q]
      exact ⟨r, rfl⟩
    · cases c4
  · unfold pFn at e
    cases lk : K.lookup (pga K x) with
    | none => rw [lk] at c; cases c
    | some ob =>
      obtain ⟨b1, b2, b3, b4⟩ := ob
      rw [lk] at c e
      cases b3 with
      | func fd =>
        obtain ⟨n1, n2, n3, n4, n5, n6, n7, n8, n9, n10, n11, n12, n13, n14, n15⟩ := fd
        have y : (some (n1, n2, n3, n4, n5, n6, n7, n15) : FnW) = some (x.prop, x.qual, defArgs x.st, .stmts (defBody x.st), defScope x.st, mainGlobals, [], builtinsNs) := e
        simp only [Option.some.injEq, Prod.mk.injEq] at y
        obtain ⟨y1, y2, y3, y4, y5, y6, y7, y8⟩ := y
        subst y1 y2 y3 y4 y5 y6 y7 y8
        obtain ⟨k1, k2⟩ := ba (show (codeIn K n13 x.qual && dflB K n8 []) = true from c)
        exact ⟨_, ⟨b1, b2, n8, n9, n10, n11, n12, n13, n14, b4, rfl, lk, k1, dflB_ok k2, .inl rfl⟩, kp⟩
      | _ => cases c
/-! ### the hook with errors and properties -/
abbrev AlP : Type := AlM × Bool × List FnW
def obsP (n : Nat) (prog : Program) (fa : List Fa) (fn : List DefD) (xs : List XD) (ps : List PD) (ex : Frag → Bool) (g : Addr → Option Obj) : AlP :=
  (obsM n prog fa fn xs ex g, (ps.all fun x => pB (frG g (asM g n)) x), ps.map fun x => pFn (frG g (asM g n)) x)
def valP (fn : List DefD) (xs : List XD) (ps : List PD) : AlP := (valM fn xs, true, ps.map PD.val)
structure SaysP (prog : Program) (fa : List Fa) (fn : List DefD) (xs : List XD) (ps : List PD) (ex : Frag → Bool) (K : Frag) : Prop where
  m : SaysM prog fa fn xs ex K
  p : ∀ x ∈ ps, pB K x = true ∧ pFn K x = x.val
theorem saysP_of {n : Nat} {prog : Program} {fa : List Fa} {fn : List DefD} {xs : List XD} {ps : List PD} {ex : Frag → Bool} {g : Addr → Option Obj} (e : obsP n prog fa fn xs ps ex g = valP fn xs ps) : SaysP prog fa fn xs ps ex (frG g (asM g n)) := by
  have e1 := congrArg (fun z : AlP => z.1) e
  have e2 := congrArg (fun z : AlP => z.2.1) e
  have e3 := congrArg (fun z : AlP => z.2.2) e
  exact ⟨saysM_of e1, fun x hx => ⟨List.all_eq_true.mp e2 x hx, map_eq_at e3 x hx⟩⟩
def hookP (n : Nat) (prog : Program) (fa : List Fa) (fn : List DefD) (xs : List XD) (ps : List PD) (ex : Frag → Bool) : PySem.W.Hook where
  α := AlP
  obs := fun s => obsP n prog fa fn xs ps ex s.heap.get?
  val := fun _ => valP fn xs ps
  says := fun w h => ∃ K : PySem.W.Frag, K.In h ∧ SaysP prog fa fn xs ps ex K
  of := fun _ _ e => ⟨_, frG_in, saysP_of e⟩
  keeps := fun _ _ _ ⟨K, hK, c⟩ k => ⟨K, PySem.W.Frag.In.keeps hK k, c⟩
theorem obsP_eq {n : Nat} {prog : Program} {fa : List Fa} {fn : List DefD} {xs : List XD} {ps : List PD} {ex : Frag → Bool} {g : Addr → Option Obj} {s : Shared} (h : ∀ a, g a = s.heap.get? a) : obsP n prog fa fn xs ps ex g = (hookP n prog fa fn xs ps ex).obs s := by
  have e : g = s.heap.get? := funext h
  rw [e] <;> rfl
end MCH
/-! tuple * 0, tuple * 1, tuple * k of one-item tuples -/
namespace L2
open PySem PySem.Spec PyProof.Rows
theorem tuple_mul0 (l : Addr) (a : Value) (n : Nat) (dd : Option Addr) (sl : Array (Option Value)) (u : Tok) :
    Meets (Builtin.«tuple.__mul__» ⟨[.ref l, .int 0 u], []⟩) (fun _ R s => s.heap.get? l = some { cls := .type "tuple", dict := dd, data := .seq #[a] n, slots := sl } ∧
      R (.ok (.ret (Value.ref s.heap.objs.size))) { s with heap := s.heap.push { cls := Value.type "tuple", data := Data.seq #[] } }) :=
  .of_wp fun prog w A R s h => by
    obtain ⟨hp, g, d, tk, os⟩ := s
    obtain ⟨hl, h⟩ := h
    have f1 := AutoSeq1.idx_int
    wp_walk using wpAny_loadPart' hl
    exact ⟨_, rfl, h⟩
theorem tuple_mul1 (l : Addr) (a : Value) (n : Nat) (dd : Option Addr) (sl : Array (Option Value)) (u : Tok) :
    Meets (Builtin.«tuple.__mul__» ⟨[.ref l, .int 1 u], []⟩) (fun _ R s => s.heap.get? l = some { cls := .type "tuple", dict := dd, data := .seq #[a] n, slots := sl } ∧ R (.ok (.ret (Value.ref l))) s) :=
  .of_wp fun prog w A R s h => by
    obtain ⟨hp, g, d, tk, os⟩ := s
    obtain ⟨hl, h⟩ := h
    have f1 := AutoSeq1.idx_int
    wp_walk using wpAny_loadPart' hl
    exact ⟨_, rfl, h⟩
/-- (a,) * k -/
def rRep1 (K : PySem.W.Frag) : R2 := fun x y H Q => ∃ (l : Addr) (k : Nat) (a : V), x = .ref l ∧ y = .int k ∧ SqT K H l [a] ∧ k ≤ 1000 ∧ ∀ p H', Same H H' → SqT K H' p (List.replicate k a) → Q (.ref p) H'
theorem flat1 {α : Type} (a : α) : ∀ k : Nat, (List.replicate k [a]).flatten = List.replicate k a
  | 0 => rfl
  | k + 1 => by rw [List.replicate_succ, List.flatten_cons, flat1 a k, List.replicate_succ]; rfl
theorem op_rep1 {X : Cx} : OpR X (binaryOp .Mult) (rRep1 X.K) := by
  intro pins s σ H x y v u Q I rx ry h
  obtain ⟨l, k, a, rfl, rfl, hT, hk, q⟩ := h
  match k, hk, q with
  | 0, hk, q =>
    cases rx
    obtain ⟨t, rfl⟩ := ry
    obtain ⟨its, r, ⟨⟨cls, dd, data, sl⟩, ho, hc, n, hd⟩, hs⟩ := I.tuple hT
    simp only at hc hd
    subst hc hd
    obtain ⟨b, rfl, rb⟩ := vals1 r
    refine wpAny_binaryOp_repeat_ref (T := "tuple") (U := "int") (by decide) ⟨_, ho, rfl⟩ (fun s' => typeIs_int s' 0 t) noFill_tuple_mul F.fills_int_mul F.slot_int_rmul repeat_tuple F.slot_int_index.lookup
      (call_meets F.slot_int_rmul (typeIs_int s 0 t) F.entry_int_rmul (F.args_int_rmul_2 _ _) (int_rmul_tuple 0 t l #[b] n dd sl)
        ⟨ho, rfl, ⟨_, ho, rfl⟩, call_meets F.slot_tuple_mul ⟨_, ho, rfl⟩ F.entry_tuple_mul (F.args_tuple_mul_2 _ _) (tuple_mul0 l b n dd sl t) ⟨ho, ?_⟩⟩)
    refine ⟨.ref s.heap.objs.size, _, I.laid (t' := s.toks) (o := .tup []) (fun b ob q => Heap.get?_push_of_some _ q) (Nat.le_refl _) ?_, rfl, q _ _ (Same.new' (I.hok.fresh (Nat.le_refl _))) (SqT.of upd_same)⟩
    exact ⟨Nat.zero_le _, [], .nil, IsTup.new _ _⟩
  | 1, hk, q =>
    cases rx
    obtain ⟨t, rfl⟩ := ry
    obtain ⟨its, r, ⟨⟨cls, dd, data, sl⟩, ho, hc, n, hd⟩, hs⟩ := I.tuple hT
    simp only at hc hd
    subst hc hd
    obtain ⟨b, rfl, rb⟩ := vals1 r
    refine wpAny_binaryOp_repeat_ref (T := "tuple") (U := "int") (by decide) ⟨_, ho, rfl⟩ (fun s' => typeIs_int s' 1 t) noFill_tuple_mul F.fills_int_mul F.slot_int_rmul repeat_tuple F.slot_int_index.lookup
      (call_meets F.slot_int_rmul (typeIs_int s 1 t) F.entry_int_rmul (F.args_int_rmul_2 _ _) (int_rmul_tuple 1 t l #[b] n dd sl)
        ⟨ho, rfl, ⟨_, ho, rfl⟩, call_meets F.slot_tuple_mul ⟨_, ho, rfl⟩ F.entry_tuple_mul (F.args_tuple_mul_2 _ _) (tuple_mul1 l b n dd sl t) ⟨ho, ?_⟩⟩)
    exact ⟨.ref l, H, I, rfl, q l H (Same.refl H) hT⟩
  | k + 2, hk, q =>
    refine op_repT pins s σ H _ _ v u Q I rx ry ⟨l, _, [a], rfl, rfl, hT, by simp, by omega, by omega, by simp, fun p hp => ?_⟩
    refine q p _ (Same.new' hp) ?_
    have e : (List.replicate (((k + 2 : Nat) : Int)).toNat [a]).flatten = List.replicate (k + 2) a := by rw [Int.toNat_natCast, flat1]
    rw [← e]
    exact SqT.of upd_same
end L2
namespace L2
open PySem PySem.Spec PyProof.Rows StX
/-! ### d.update(e), two dicts -/
section
variable {X : Cx} {pins : List (Addr × Obj)} {σ : St} {H : Hp} {s : Shared} {A : Around} {E : Value → Shared → Prop} {a b : Addr} {kvs more : List (Key × V)}
theorem d_update {Q : Value → Shared → Prop} (I : Inv X pins σ H s) (e : H a = some (.dK kvs)) (e2 : H b = some (.dK more)) (ne : a ≠ b) (hz : kvs.length + more.length ≤ sizeLine)
    (h : ∀ s', Inv X pins σ (upd H a (.dK (mergeK kvs more))) s' → Q .none s') : wpAny (model X.prog X.w) A (call (.builtin "dict.update") [.ref a, .ref b]) Q E s := by
  obtain ⟨z, hd, vs, rel, dd⟩ := dk_of I.hok e
  obtain ⟨z2, hd2, ws, rel2, dd2⟩ := dk_of I.hok e2
  refine call_meetsIn PySem.F.slot_dict_update dd.typeIs PySem.F.entry_dict_update (PySem.F.args_dict_update_2 _ _) (meets_dict_update (mixKind X.prog X.w) a b ne hd2) ⟨vs, ws, dd, dd2, by rw [← rel.length, ← rel2.length]; exact hz, fun h' dd' _ hs => h _ ?_⟩
  have he : ∃ q, h'.get? a = some q := let ⟨q, _, _, hq, _⟩ := dd'; ⟨q, hq⟩
  exact d_write (t' := s.toks) I (by rw [e]; exact True.intro) hs he (dk_new (Nat.le_trans (length_mergeK _ _) hz) hd (rel2.merge rel) dd')
end
def tDUpd (td ty : TE) : TE := fun σ H Q => td σ H fun x H1 => ∃ a, x = .ref a ∧ IsD H1 a ∧ ty σ H1 fun y H2 => ∃ b kvs more, y = .ref b ∧ H2 a = some (.dK kvs) ∧ H2 b = some (.dK more) ∧ a ≠ b ∧ kvs.length + more.length ≤ sizeLine ∧ Q .non (upd H2 a (.dK (mergeK kvs more)))
theorem pe_dupd {X : Cx} {o e : Expr} {apos cpos : Pos} {td ty : TE} (ho : PE X o td) (he : PE X e ty) (m : M1 X o "update" apos e cpos) : PE X (.Call (.Attribute o "update" apos) [e] [] cpos) (tDUpd td ty) := by
  refine ⟨fun pins s σ H Q I h => ?_⟩
  refine wpAny_Call_method m.base m.few m.line PySem.F.plainAttrs_dict PySem.F.slot_dict_update PySem.F.type_dict_update (thn (ho.run pins s σ H _ I h) fun u s1 ⟨x, H1, I1, rx, a, ex, d, q1⟩ => ?_)
  subst ex
  obtain rfl : u = Value.ref a := rx
  obtain ⟨t1, t2, _⟩ := isD_at I1 d
  refine ⟨t1, t2, ?_⟩
  rw [m.trees]
  refine Calls.callWith_builtin rfl (Calls.evalArgs_plain (Calls.spliced_cons (thn (he.run pins s1 σ H1 _ I1 q1) fun iv s2 ⟨y, H2, I2, ry, b, kvs, more, ey, e1, e2, ne, hz, q2⟩ => Calls.spliced_nil ?_)))
  subst ey
  obtain rfl : iv = Value.ref b := ry
  exact d_update I2 e1 e2 ne hz fun s3 I3 => ⟨.non, _, I3, rfl, q2⟩
/-! ### def m(self, **fields), called with keywords -/
section
variable {prog : Program} {w : World} {A : Around} {E : Value → Shared → Prop} {d : Addr}
theorem nsSet_new {s : Shared} {es : List DictEntry} {n : Nat} {k : Str} {v : Value} {Q : Unit → Shared → Prop} (D : s.heap.get? d = some (PySem.W.dictOf es n)) (hs : ∀ e ∈ es, e.key.isStr k = false) (hr : ∀ e ∈ es, e.refKey = false)
    (h : ∀ h', Heap.SameBut d s.heap h' → h'.get? d = some (PySem.W.dictOf (es ++ [⟨PyData.keyHash w.params k, .str k s.toks, v⟩]) (n + 1)) → Q () { s with heap := h', toks := s.toks + 1 }) :
    wpAny (model prog w) A (nsSet d k v) Q E s := by
  have e1 : es.any (·.key.isStr k) = false := by
    cases q : es.any (·.key.isStr k) with
    | false => rfl
    | true => obtain ⟨e, he, z⟩ := List.any_eq_true.mp q; rw [hs e he] at z; cases z
  have e2 : es.any (·.refKey) = false := by
    cases q : es.any (·.refKey) with
    | false => rfl
    | true => obtain ⟨e, he, z⟩ := List.any_eq_true.mp q; rw [hr e he] at z; cases z
  have e : Obj.putName k (PyData.keyHash w.params k) (.str k s.toks) v (PySem.W.dictOf es n) = PySem.W.dictOf (es ++ [⟨PyData.keyHash w.params k, .str k s.toks, v⟩]) (n + 1) := by
    rw [PySem.W.putName_dict, PySem.W.putL_new hs]
    show PySem.W.dictOf _ (if es.any (·.key.isStr k) then n else n + 1) = _
    rw [e1, if_neg Bool.false_ne_true]
  have c : aRefKeyMayBeTheName k es.toArray = false := by
    rw [aRefKeyMayBeTheName_at, ← Array.any_toList, ← Array.any_toList]
    show (!es.any (·.key.isStr k) && es.any (·.refKey)) = false
    rw [e2, Bool.and_false]
  unfold nsSet
  refine wpAny_bind (wpAny_bind (wpAny_askSetting (wpAny_pure (wpAny_bind (wpAny_mkText (wpAny_bind (wpAny_loadPart D ?_)))))))
  dsimp only
  rw [c]
  refine wpAny_updatePart D (h _ (Heap.SameBut.update ..) ?_)
  rw [← e]
  exact Heap.get?_update_self _ D (by show (Obj.putName k (PyData.keyHash w.params k) (.str k s.toks) v (PySem.W.dictOf es n)).isFreed = false; rw [e]; rfl)
theorem SameBut.trans' {a : Addr} {h h1 h2 : Heap} (x : Heap.SameBut a h h1) (y : Heap.SameBut a h1 h2) : Heap.SameBut a h h2 := ⟨y.1.trans x.1, fun b hb => (y.2 b hb).trans (x.2 b hb)⟩
theorem fill_kw {Q : PUnit → Shared → Prop} : ∀ (ex : List (Str × Value)) (s : Shared) (es : List DictEntry) (n : Nat), s.heap.get? d = some (PySem.W.dictOf es n) →
    (∀ e ∈ es, ∀ x ∈ ex, e.key.isStr x.1 = false) → (∀ e ∈ es, e.refKey = false) → (ex.map (·.1)).Nodup →
    (∀ h' n', Heap.SameBut d s.heap h' → h'.get? d = some (PySem.W.dictOf (es ++ PySem.W.kwEs w.params s.toks ex) n') → Q ⟨⟩ { s with heap := h', toks := s.toks + ex.length }) →
    wpAny (model prog w) A (forIn ex PUnit.unit fun x _ => (nsSet d x.1 x.2 >>= fun _ => pure (ForInStep.yield PUnit.unit))) Q E s
  | [], s, es, n, D, _, _, _, h => by
    rw [List.forIn_nil]
    refine wpAny_pure (h s.heap n ⟨rfl, fun _ _ => rfl⟩ ?_)
    show _ = some (PySem.W.dictOf (es ++ []) n)
    rw [List.append_nil]
    exact D
  | x :: r, s, es, n, D, hs, hr, hn, h => by
    obtain ⟨hn1, hn2⟩ := List.nodup_cons.mp (show (x.1 :: r.map (·.1)).Nodup from hn)
    rw [List.forIn_cons]
    refine wpAny_bind (wpAny_bind (nsSet_new D (fun e he => hs e he x (.head _)) hr fun h' S' D' => wpAny_pure ?_))
    show wpAny (model prog w) A (forIn r PUnit.unit fun x _ => (nsSet d x.1 x.2 >>= fun _ => pure (ForInStep.yield PUnit.unit))) Q E { s with heap := h', toks := s.toks + 1 }
    refine fill_kw r { s with heap := h', toks := s.toks + 1 } _ _ D' (fun e he y hy => ?_) (fun e he => ?_) hn2 fun h'' n'' S'' D'' => ?_
    · rcases List.mem_append.mp he with he | he
      · exact hs e he y (.tail _ hy)
      · obtain rfl := List.mem_singleton.mp he
        show (x.1 == y.1) = false
        exact beq_eq_false_iff_ne.mpr fun q => hn1 (by rw [q]; exact List.mem_map_of_mem hy)
    · rcases List.mem_append.mp he with he | he
      · exact hr e he
      · obtain rfl := List.mem_singleton.mp he
        rfl
    · have t1 : s.toks + 1 + r.length = s.toks + (r.length + 1) := by omega
      show Q ⟨⟩ { s with heap := h'', toks := s.toks + 1 + r.length }
      rw [t1]
      refine h h'' n'' (SameBut.trans' S' S'') ?_
      rw [List.append_assoc] at D''
      exact D''
theorem kw_pairs : ∀ (ex : List (Str × Value)) (t : Tok), Pairs (mixKind prog w) (PySem.W.kwEs w.params t ex) (ex.map fun x => ((Sum.inr x.1 : Key), x.2))
  | [], _ => Pairs.nil
  | x :: r, t => Pairs.cons (kV_is (k := Sum.inr x.1) (u := .str x.1 t) ⟨t, rfl⟩) rfl (kw_pairs r (t + 1))
end
def inrs (ks : List Str) : List Key := ks.map Sum.inr
theorem kv_zip : ∀ {ks : List Str} {vs : List V} {us : List Value}, Vals vs us → KV ((inrs ks).zip vs) ((ks.zip us).map fun x => ((Sum.inr x.1 : Key), x.2))
  | [], _, _, _ => .nil
  | k :: ks, _, _, .nil => .nil
  | k :: ks, _, _, .cons h r => .cons ⟨rfl, h⟩ (kv_zip r)
theorem inrs_nodup : ∀ {ks : List Str}, ks.Nodup → (inrs ks).Nodup := fun {ks} h => by
  unfold inrs
  rw [List.Nodup, List.pairwise_map]
  exact h.imp fun ne q => ne (Sum.inr.inj q)
section
variable {P : Program} {w : World} {K : PySem.W.Frag} {mg : Str → Option Value} {base : Heap} {A : Around} {outer : List Env} {s : Shared} {H : Hp}
theorem env0_laid' {h' : Heap} {u : HO} {tk : Nat} (e0 : Env0 P w K mg base A outer s H) (kp : ∀ b x, s.heap.get? b = some x → h'.get? b = some x) (sz : s.heap.objs.size ≤ h'.objs.size) (new : ObjOk P w (upd H s.heap.objs.size u) h' s.heap.objs.size u) :
    Env0 P w K mg base A outer { s with heap := h', toks := tk } (upd H s.heap.objs.size u) := by
  refine ⟨e0.frames, e0.mod, fun b x e => ⟨kp b x (e0.bs b x e).1, ?_⟩, ?_, Heap.FunFrames.of_keeps (fun b x e _ => ⟨x, kp b x e, rfl⟩) e0.funs, fun b hb => ?_, e0.hok.laid kp (Nat.le_refl _) new, e0.bare⟩
  · rw [upd_ne (Nat.ne_of_lt (Heap.lt_size (e0.bs b x e).1))]
    exact (e0.bs b x e).2
  · exact Nat.le_trans e0.bsz sz
  · obtain ⟨_, x, hx, _⟩ := e0.funs.mem hb
    rw [upd_ne (Nat.ne_of_lt (Heap.lt_size hx))]
    exact e0.frf b hb
end
/-- what a def (self, **fields) promises of a call with the keywords ks -/
def FnKw (P : Program) (w : World) (K : PySem.W.Frag) (mg : Str → Option Value) (base : Heap) (CX : CXT) (k : Nat) (f : Addr) (ks : List Str) (sp : V → List V → Hp → VK → XK → Prop) : Prop :=
  ∀ (A : Around) (outer : List Env) (s : Shared) (H : Hp) (u : Value) (us : List Value) (v : V) (vs : List V) (Q : VK) (E : XK), Room k A → Env0 P w K mg base A outer s H → RelV v u → Vals vs us → vs.length = ks.length → sp v vs H Q E →
    codeAny (model P w) A (.call (.ref f) ⟨[u], ks.zip us⟩) (CR CX outer P w H s Q E) s
abbrev kwDict (d : Addr) : Sem Unit := pure ()
def bindKw (d : Str) (x : Str) (u : Value) (ex : List (Str × Value)) : Sem (List (Str × Value)) :=
  (alloc ({ cls := .type "dict", data := .dict #[] } : Obj) : Sem Addr) >>= fun a => (forIn ex PUnit.unit fun x _ => (nsSet a x.1 x.2 >>= fun _ => pure (ForInStep.yield PUnit.unit))) >>= fun _ => pure [(x, u), (d, Value.ref a)]
section
variable {CX : CXT} {P : Program} {w : World} {K : PySem.W.Frag} {mg : Str → Option Value} {base : Heap} {k : Nat} {f : Addr} {name qual : Str} {params : Arguments} {body : List Stmt} {scope : Scope} {N : List Str} {fd : FuncData}
theorem fn_kw {x d : Str} {ks : List Str} {sp : V → List V → Hp → VK → XK → Prop} (F : FunD K name qual params body scope [] [] f fd) (S : FnScope N [x, d] scope) (hCX : CXUp CX) (hks : ks.Nodup) (hkl : ks.length ≤ 1000)
    (hb : ∀ (dV kV doc pm : Value) (an : Option Addr) (cdv ct : Value) (u : Value) (us : List Value), DflV K dV [] → us.length = ks.length → bindArgs (PySem.W.fnOf name qual params body scope dV kV doc pm an cdv ct) ⟨[u], ks.zip us⟩ = bindKw d x u (ks.zip us))
    (hbody : ∀ (cdv : Value) (A : Around) (outer : List Env) (s : Shared) (H0 : Hp) (v : V) (vs : List V) (Q : VK) (E : XK) (p : Addr), Room k (A.deeper (envOfC qual scope s.heap.objs.size f cdv)) → H0 p = none → vs.length = ks.length → sp v vs H0 Q E →
      ∃ t, PSs (cxOf CX P w K mg base N qual scope f cdv A outer s (upd H0 p (.dK ((inrs ks).zip vs))) E) body t ∧ t { nx := fun _ H' => Q .non H', rt := Q } (start N [v, .ref p]) (upd H0 p (.dK ((inrs ks).zip vs)))) :
    FnKw P w K mg base CX (k + 1) f ks sp := by
  obtain ⟨oc, od, dV, kV, doc, pm, an, cdv, ct, osl, rfl, lk, hcd, hD, _⟩ := F.ex
  intro A outer s H u us v vs Q E hr e0 rv r hl hsp
  have hn : H s.heap.objs.size = Option.none := e0.hok.fresh (Nat.le_refl _)
  have hl1 : us.length = ks.length := by rw [← r.length]; exact hl
  refine run_bnd lk hcd S hr e0 (G := fun xs H2 => ∃ p, H p = Option.none ∧ xs = [v, V.ref p] ∧ H2 = upd H p (.dK ((inrs ks).zip vs))) (fun A' Ex Q' h => ?_) fun s2 H2 xs ⟨p, hp, ex, eH⟩ hr' => ?_
  · rw [hb dV kV doc pm an cdv ct u us hD hl1]
    unfold bindKw
    refine wpAny_bind (wpAny_alloc (wpAny_bind ?_))
    have em : (ks.zip us).map (·.1) = ks := by rw [List.map_fst_zip]; omega
    refine fill_kw (ks.zip us) _ [] 0 (Heap.get?_push_size _ rfl) (fun e he => by cases he) (fun e he => by cases he) (by rw [em]; exact hks) fun h' n' S' D' => wpAny_pure ?_
    have kp : ∀ b o, s.heap.get? b = some o → h'.get? b = some o := fun b o e => (S'.2 b (Nat.ne_of_lt (Heap.lt_size e))).trans (Heap.get?_push_of_some _ e)
    have sz : s.heap.objs.size ≤ h'.objs.size := by
      rw [S'.1]
      show s.heap.objs.size ≤ (s.heap.push _).objs.size
      rw [Heap.size_push]
      exact Nat.le_succ _
    have dd : h'.DictOf (mixKind P w) s.heap.objs.size ((ks.zip us).map fun x => ((Sum.inr x.1 : Key), x.2)) := by
      refine ⟨_, _, _, D', ⟨rfl, rfl, rfl⟩, rfl, fun e he => ?_, kw_pairs _ _, ?_⟩
      · obtain ⟨k, t, hk, hh⟩ := PySem.W.kwEs_key (ks.zip us) _ e (List.mem_toArray.mp he)
        exact ⟨Sum.inr k, kV_is (k := Sum.inr k) (by rw [hk]; exact ⟨t, rfl⟩), hh.trans rfl⟩
      · rw [List.map_map]
        have z : (ks.zip us).map ((fun x : Key × Value => x.1) ∘ fun x => ((Sum.inr x.1 : Key), x.2)) = inrs ks := by
          have z1 : ((ks.zip us).map (·.1)).map (Sum.inr : Str → Key) = inrs ks := by rw [em]; rfl
          rw [← z1, List.map_map]
          rfl
        rw [z]
        exact inrs_nodup hks
    have hbig : (s.heap.objs.size == sysModules) = false := by
      have := env0_big e0
      exact beq_eq_false_iff_ne.mpr (Nat.ne_of_gt this)
    have zl : ((inrs ks).zip vs).length ≤ sizeLine := by
      rw [List.length_zip]
      have z1 : (inrs ks).length = ks.length := by simp [inrs]
      have z2 : 1000 ≤ sizeLine := by decide
      omega
    have new : ObjOk P w (upd H s.heap.objs.size (.dK ((inrs ks).zip vs))) h' s.heap.objs.size (.dK ((inrs ks).zip vs)) := dk_new zl hbig (kv_zip r) dd
    have un : Un (frs outer) [] H (upd H s.heap.objs.size (.dK ((inrs ks).zip vs))) s.heap h' := Un.laid kp (Nat.le_refl _) hn
    have e1 : Env0 P w K mg base A outer { s with heap := h', toks := s.toks + (ks.zip us).length } (upd H s.heap.objs.size (.dK ((inrs ks).zip vs))) := env0_laid' e0 kp sz new
    exact h { s with heap := h', toks := s.toks + (ks.zip us).length } (upd H s.heap.objs.size (.dK ((inrs ks).zip vs))) [v, V.ref s.heap.objs.size] [u, Value.ref s.heap.objs.size] e1 un rfl (fun e s' => hCX outer s H _ _ E e s' un kp rfl) (.cons rv (.cons rfl .nil)) rfl ⟨_, hn, rfl, rfl⟩
  · subst ex eH
    exact hbody cdv A outer s2 H v vs Q E p hr' hp hl hsp
theorem FnKw.mono {j : Nat} {ks : List Str} {sp : V → List V → Hp → VK → XK → Prop} (F : FnKw P w K mg base CX j f ks sp) (h : j ≤ k) : FnKw P w K mg base CX k f ks sp := fun A o s H u us v vs Q E hr => F A o s H u us v vs Q E (hr.mono h)
end
/-- o.m(k = e, ..) -/
def tMethKw (C : Addr) (m : Str) (n : Nat) (sp : V → List V → Hp → VK → XK → Prop) (E : St → XK) (ta : TE) (t : TA) : TE := fun σ H Q => ta σ H fun x H1 => ∃ a dx fs, x = .ref a ∧ H1 a = some (.ins C dx fs) ∧ fs.lookup m = none ∧
  t σ H1 fun vs H2 => vs.length = n ∧ sp x vs H2 Q (E σ)
section
variable {X : Cx} {CX : CXT} {k : Nat} {f C : Addr} {m : Str} {ks : List Str} {sp : V → List V → Hp → VK → XK → Prop} {E : St → XK} {o : Expr} {ta : TE} {tk : TA} {apos pos : Pos} {kws : List Keyword}
theorem run_fnKw {pins : List (Addr × Obj)} {σ : St} {H : Hp} {s : Shared} {Q : VK} {u : Value} {us : List Value} {v : V} {vs : List V} (F : FnKw X.prog X.w X.K X.mg X.base CX k f ks sp) (hr : Room k X.A) (hx : PassesAt CX X σ (E σ)) (I : Inv X pins σ H s) (rv : RelV v u) (r : Vals vs us) (hl : vs.length = ks.length) (h : sp v vs H Q (E σ)) :
    wpAny (model X.prog X.w) X.A (call (.ref f) [u] (ks.zip us)) (EP X pins σ Q) X.xe s := by
  refine wpAny_call (codeAny_mono (F X.A X.stack s H u us v vs Q (E σ) hr I.env0 rv r hl h) fun r s' hq => ?_)
  match r, hq with
  | .error e, hq => exact hx pins _ _ e s' I hq
  | .ok (.ret u), hq => exact I.after hq
  | .ok .next, hq => exact hq.elim
  | .ok .brk, hq => exact hq.elim
  | .ok .cont, hq => exact hq.elim
theorem pe_methKw {pl : Sem Bool} (he : PE X o ta) (c : Cls X.K C) (hm : Meth X.K C m f) (F : FnKw X.prog X.w X.K X.mg X.base CX k f ks sp) (hr : Room k X.A) (hx : ∀ σ, PassesAt CX X σ (E σ)) (hkw : PK X kws tk)
    (hall : (backToKw pos (keywordEach kws X.env)).all (·.1.isSome) = true := by rfl) (hks : (backToKw pos (keywordEach kws X.env)).filterMap (·.1) = ks := by rfl)
    (hpl : ((backTo pos (starEach [] X.env)).any (·.1) || (backToKw pos (keywordEach kws X.env)).any (·.1.isNone)) = false := by rfl)
    (ht : eval (.Call (.Attribute o m apos) [] kws pos) X.env = (do
      let ov ← eval o X.env
      standAt apos.atName
      let (f, first) ← holding [ov] (getMethod ov m pl)
      callWith pos f first (backTo pos (starEach [] X.env)) (backToKw pos (keywordEach kws X.env))) := by rfl) :
    PE X (.Call (.Attribute o m apos) [] kws pos) (tMethKw C m ks.length sp E ta tk) := by
  refine ⟨fun pins s σ H Q I h => ?_⟩
  refine PySem.W.methodCall_KW (pl := pl) (thn (he.run pins s σ H _ I h) fun u s1 ⟨x, H1, I1, rx, a, dx, fs, ex, ea, l, q⟩ => ?_) ht
  subst ex
  obtain rfl : u = Value.ref a := rx
  refine getmeth_ok I1 ea c hm l ?_
  refine PySem.W.callWith_KW0 (first := [.ref a]) (h₀ := X.base) I.ok.mod.kin hm.kp hall ?_ hpl
  refine thn (hkw.run pos pins s1 σ H1 _ I1 q) fun ws s2 ⟨zs, H2, I2, rz, l2, q2⟩ => ⟨I2.kIn, ?_⟩
  rw [hks]
  exact run_fnKw (v := .ref a) F hr (hx σ) I2 rfl rz l2 q2
theorem pe_methKw0 {pl : Sem Bool} (he : PE X o ta) (c : Cls X.K C) (hm : Meth X.K C m f) (F : FnKw X.prog X.w X.K X.mg X.base CX k f [] sp) (hr : Room k X.A) (hx : ∀ σ, PassesAt CX X σ (E σ))
    (ht : eval (.Call (.Attribute o m apos) [] [] pos) X.env = (do
      let ov ← eval o X.env
      standAt apos.atName
      let (f, first) ← holding [ov] (getMethod ov m pl)
      callWith pos f first (backTo pos (starEach [] X.env)) (backToKw pos (keywordEach [] X.env))) := by rfl) :
    PE X (.Call (.Attribute o m apos) [] [] pos) (tMethKw C m 0 sp E ta tNil) := by
  refine ⟨fun pins s σ H Q I h => ?_⟩
  refine PySem.W.methodCall_KW (pl := pl) (thn (he.run pins s σ H _ I h) fun u s1 ⟨x, H1, I1, rx, a, dx, fs, ex, ea, l, q⟩ => ?_) ht
  subst ex
  obtain rfl : u = Value.ref a := rx
  refine getmeth_ok I1 ea c hm l ?_
  obtain ⟨_, q⟩ := q
  exact PySem.W.callWith_K0 (first := [.ref a]) I1.kIn hm.kp (run_fnKw (v := .ref a) (us := []) (vs := []) F hr (hx σ) I1 rfl .nil rfl q)
end
end L2
namespace L2
open PySem PySem.Spec PyProof.Rows
/-! ### promises where the def's own code object is told -/
section
variable {P : Program} {w : World} {K : PySem.W.Frag} {mg : Str → Option Value} {base : Heap} {CX : CXT} {k : Nat} {f : Addr} {fd : FuncData} {ps : List Str} {sp : Sp}
theorem FunD.okGC {x qual : Str} {params : Arguments} {body : List Stmt} {scope : Scope} {dvs : List V} {kws : List (Str × V)} {N : List Str} (F : FunD K x qual params body scope dvs kws f fd) (S : FnScope N ps scope) (len : ∀ vs H Q E, sp vs H Q E → vs.length = ps.length)
    (hbody : ∀ (A : Around) (outer : List Env) (s : Shared) (H : Hp) (vs : List V) (Q : VK) (E : XK), A.guards = some [] → Room k (A.deeper (envOfC qual scope s.heap.objs.size f fd.code)) → sp vs H Q E →
      ∃ t, PSs (cxOf CX P w K mg base N qual scope f fd.code A outer s H E) body t ∧ t { nx := fun _ H' => Q .non H', rt := Q } (start N vs) H) : FnG P w K mg base CX (k + 1) f fd ps sp := by
  obtain ⟨oc, od, dV, kV, doc, pm, an, cdv, ct, osl, rfl, lk, hcd, _, _⟩ := F.ex
  have hbody : ∀ (A : Around) (outer : List Env) (s : Shared) (H : Hp) (vs : List V) (Q : VK) (E : XK), A.guards = some [] → Room k (A.deeper (envOfC qual scope s.heap.objs.size f cdv)) → sp vs H Q E →
      ∃ t, PSs (cxOf CX P w K mg base N qual scope f cdv A outer s H E) body t ∧ t { nx := fun _ H' => Q .non H', rt := Q } (start N vs) H := hbody
  refine ⟨len, fun A outer s H args us vs Q E hgd hr e0 hbn rv hsp => ?_⟩
  have KX : K.In s.heap := e0.mod.kin.keeps fun b o e => (e0.bs b o e).1
  have kinds : ∀ y ∈ ps.zip us, scope.names.lookup y.1 = some .local ∨ (scope.names.lookup y.1 = some .cell ∧ ((cellsFrom (s.heap.objs.size + 1) scope.names []).lookup y.1).isSome = true) := by
    rintro ⟨n, v⟩ hy
    exact (S.par n (List.of_mem_zip hy).1).imp id fun q => ⟨q, PySem.W.cellsFrom_some _ _ _ (.inl q)⟩
  refine codeAny_call_function hr.depth (KX _ _ lk) rfl S.co S.gen rfl (PySem.W.codeRec_of KX hcd) (hbn _ _ _ _ (wpAny_newFunctionEnv_cells S.kind kinds fun env he s1 x => ?_))
  subst he
  refine ⟨(e0.mod.nolimit.keeps fun b o e => (e0.bs b o e).1).keeps x.toInCall.keep, codeAny_func ?_⟩
  obtain ⟨t, ht, hq⟩ := hbody A outer s H vs Q E hgd (hr.deeper _) hsp
  have J0 := inv_start (CX := CX) (E := E) S hr.hd e0 (len _ _ _ _ hsp) rv x
  refine wpAny_mono (ht.run [] s1 (start N vs) H _ J0 hq) (fun fl s' hs => ?_) fun e s' hs => hs
  cases fl with
  | ret u => exact let ⟨v, σ', H', J, rz, q⟩ := hs; ⟨v, H', J.os, J.bare, J.base, J.hok, rz, q⟩
  | next => exact let ⟨σ', H', J, q⟩ := hs; ⟨.non, H', J.os, J.bare, J.base, J.hok, rfl, q⟩
  | brk => exact let ⟨_, _, _, q⟩ := hs; q.elim
  | cont => exact let ⟨_, _, _, q⟩ := hs; q.elim
end
end L2
namespace L2
open PySem PySem.Spec PyProof.Rows LamX
/-! ### f(lambda: ..), where f reads the error that the lambda lets out: the wish is told at f's own slots -/
abbrev zCx (X : Cx) (Ng : List Str) (qg : Str) (sg : Scope) (g : Addr) (cdg : Value) (s : Shared) (H : Hp) : Cx := cxOf L2.CX0 X.prog X.w X.K X.mg X.base Ng qg sg g cdg X.A X.stack s H L2.E0
section
variable {X : Cx} {pins : List (Addr × Obj)} {σ : L2.St} {H HZ : Hp} {s s1 : Shared}
theorem pe_actW {Ng : List Str} {qg : Str} {sg : Scope} {g f c' : Addr} {cdg pm ctv : Value} {params : Arguments} {body : Expr} {scope : Scope} {k i : Nat} {a : Str} {pn : List (Addr × Obj)} {xe : Value → Shared → Prop} {W : WX} {tb : XK → TE} {p1 p2 : Pos}
    (I : Inv X pins σ H s) (L : LamS X.env.scope scope)
    (hf : s.heap.get? f = some (PySem.W.kla_obj "<lambda>" (X.env.qual ++ "<lambda>") params body scope (cloFrom X.env.cells scope.names []) pm c' ctv)) (hfn : H f = none) (hfr : f ∉ frs X.stack)
    (hbind : bindArgs (PySem.W.kla_fn "<lambda>" (X.env.qual ++ "<lambda>") params body scope (cloFrom X.env.cells scope.names []) pm (.ref c') ctv) ⟨[], []⟩ = pure [])
    (tk : Takes ((zCx X Ng qg sg g cdg s H).tr pn xe) W) (hr : Room (k + 1) (X.A.deeper (envOfC qg sg s.heap.objs.size g cdg)))
    (hbody : ∀ (A : Around) (outer : List Env) (s : Shared) (H : Hp) (E : XK), Room k (A.deeper (lamEnv X scope s.heap.objs.size f c')) → PE (lamCx X A outer s H E scope f c') body (tb E))
    (hN : Ng[i]? = some a) (hv : Vis sg a) (hd : (a == ("__debug__" : Str)) = false := by decide) (hcd : (a == ("__classdict__" : Str)) = false := by decide) :
    PE ((zCx X Ng qg sg g cdg s H).tr pn xe) (.Call (.Name a p1) [] [] p2) (fun σZ HZ Q => σZ[i]? = some (some (.ref f)) ∧ HZ c' = some (CodeO c' (X.env.qual ++ "<lambda>")) ∧ ∃ E : XK, (∀ cls d H', E cls d H' → W cls d σZ H') ∧ tb E σ HZ Q) := by
  refine ⟨fun pinsZ sZ σZ HZ Q IZ ⟨hs, hc, E, hE, ht⟩ => ?_⟩
  have hvar := (pe_var (pos := p1) (i := i) hN hv hd hcd).run pinsZ sZ σZ HZ (fun v H1 => v = .ref f ∧ H1 = HZ) IZ ⟨.ref f, hs, rfl, rfl⟩
  refine wpAny_Call_Name_kw (thn hvar fun u s1 ⟨v, H1, I1, r1, ev, eH⟩ => ?_)
  subst ev eH
  cases (show u = Value.ref f from r1)
  have nofr : f ∉ ([] : List Addr) := fun z => nomatch z
  have of1 := I1.base.keep f _ hf hfn hfr nofr
  refine PySem.W.callWith_F0 ⟨_, _, _, _, of1⟩ ?_
  have un : Un (frs X.stack) [] H H1 s.heap s1.heap := I1.base
  obtain ⟨⟨oc, vs, t, hoc, hdc, hvc⟩, _, _⟩ := I1.hok c' _ hc
  have go : codeAny (model X.prog X.w) (X.A.deeper (envOfC qg sg s.heap.objs.size g cdg)) (.call (.ref f) ⟨[], []⟩) (CR (L2.CX X.prog X.w) (envOfC qg sg s.heap.objs.size g cdg :: X.stack) X.prog X.w H1 s1 Q E) s1 := by
    refine PySem.W.kla_callFunE hr.depth of1 rfl L.co L.gen rfl ⟨c', oc, vs, t, rfl, hoc, hdc, hvc⟩ ?_
    rw [hbind]
    refine wpAny_pure (wpAny_newFunctionEnv (fun y hy => (L.own y hy).2) (fun y hy => absurd hy (by simp)) (fun h₁ hns hsb => ⟨I1.nolimit.fresh _ hsb, ?_⟩) L.kind)
    have kp : ∀ b o, s1.heap.get? b = some o → h₁.get? b = some o := fun b o e => hsb.extBut b o (Nat.ne_of_lt (Heap.lt_size e)) (Heap.get?_push_of_some _ e)
    have J := lam_start2 (A := X.A.deeper (envOfC qg sg s.heap.objs.size g cdg)) (E := E) (f := f) (c' := c') (tk := s1.toks + ([] : List (Str × Value)).length) I L I1.env0 hr.hd un hns kp
    refine PySem.W.kla_codeExpr (wpAny_mono ((hbody _ _ s1 H1 E (hr.deeper _)).run [] _ _ H1 Q J ht) (fun v s' ⟨w', H', J', rv, q⟩ => ?_) fun e s' hq => hq)
    exact ⟨w', H', J'.os, J'.bare, J'.base, J'.hok, rv, q⟩
  refine wpAny_call (codeAny_mono go fun r s' hq => ?_)
  match r, hq with
  | .error e, hq => exact tk e s' (XE.of_call I1 hE hq)
  | .ok (.ret u), hq => exact I1.after hq
  | .ok .next, hq => exact hq.elim
  | .ok .brk, hq => exact hq.elim
  | .ok .cont, hq => exact hq.elim
end
/-- the def that calls what it got -/
def GivesW (X : Cx) (Ng : List Str) (x : Str) (sg : Scope) (g : Addr) (cdg : Value) (bg : List Stmt) (a : Str) (q : Str) (TT : (XK → Hp → VK → Prop) → Hp → VK → Prop) : Prop :=
  ∀ (f c' : Addr) (s : Shared) (H : Hp) (Q : VK) (tl : XK → Hp → VK → Prop),
    (∀ (W : WX) (pn : List (Addr × Obj)) (xe : Value → Shared → Prop) (p1 p2 : Pos), Takes ((zCx X Ng x sg g cdg s H).tr pn xe) W →
      PE ((zCx X Ng x sg g cdg s H).tr pn xe) (.Call (.Name a p1) [] [] p2) (fun σZ HZ Q => σZ[0]? = some (some (.ref f)) ∧ HZ c' = some (CodeO c' q) ∧ ∃ E : XK, (∀ cls d H', E cls d H' → W cls d σZ H') ∧ tl E HZ Q)) →
    H c' = some (CodeO c' q) → TT tl H Q → ∃ t, PSs (zCx X Ng x sg g cdg s H).nox bg t ∧ t { nx := fun _ H' => Q .non H', rt := Q } (L2.start Ng [.ref f]) H
section
variable {X : Cx}
/-- x(lambda: body) -/
theorem pe_lamW {T : List (Addr × Str)} {TT : (XK → Hp → VK → Prop) → Hp → VK → Prop} {x a : Str} {g c P : Addr} {k : Nat} {pg : Arguments} {bg : List Stmt} {sg : Scope} {fd : FuncData} {Ng : List Str}
    {params : Arguments} {body : Expr} {scope : Scope} {t : XK → TE} {p lpos pos : Pos} (hg : Gl X x) (hm : X.mg x = some (.ref g)) (F : FunD X.K x x pg bg sg [] [] g fd) (hb : Binds X.K fd [a] []) (Sg : FnScope Ng [a] sg) (hNg : Ng[0]? = some a) (hva : Vis sg a)
    (hG : ∀ cdv, GivesW X Ng x sg g cdv bg a (X.env.qual ++ "<lambda>") TT)
    (TB : TabB X.base X.mg c P) (hcode : X.env.code = .ref c) (hmT : (P, X.env.qual ++ "<lambda>") ∈ T) (hu : ∀ p ∈ T, p.1 = P → p.2 = X.env.qual ++ "<lambda>") (hr : Room (k + 2) X.A) (L : LamS X.env.scope scope) (hdef : defaultsOf params X.env = ([], []))
    (hbind : ∀ (q : Str) (cl : List (Str × Addr)) (pm cv ctv : Value), bindArgs (PySem.W.kla_fn "<lambda>" q params body scope cl pm cv ctv) ⟨[], []⟩ = pure [])
    (hbody : ∀ (A : Around) (outer : List Env) (s : Shared) (H : Hp) (E : XK) (f c' : Addr), Room k (A.deeper (lamEnv X scope s.heap.objs.size f c')) → PE (lamCx X A outer s H E scope f c') body (t E))
    (hdb : (x == ("__debug__" : Str)) = false := by decide) (hd : (a == ("__debug__" : Str)) = false := by decide) (hcd : (a == ("__classdict__" : Str)) = false := by decide) :
    PE X (.Call (.Name x p) [.Lambda params body scope lpos] [] pos) (tLam T TT t) := by
  obtain ⟨⟨oc, od, dV, kV, doc, pm, an, cdv, ct, osl, rfl, lk, hcg, _, _⟩, hk⟩ := F
  refine ⟨fun pins s σ H Q I ⟨hT, h⟩ => ?_⟩
  refine wpAny_Call_Name_kw (ld_glob I hg hm ?_ hdb)
  refine PySem.W.callWith_K (h₀ := X.base) I.ok.mod.kin hk ?_ (by rfl) (by rfl)
  show wpAny _ _ (spliced ((false, eval (.Lambda params body scope lpos) X.env) :: backTo pos (starEach [] X.env))) _ _ s
  have made := fun {Q' : Value → Shared → Prop} hQ => lam_make2 (T := T) (params := params) (body := body) (scope := scope) (pos := lpos) (E := X.xe) (Q := Q') I TB hcode hmT hu hT hdef (L.has I.ok) hQ
  refine Calls.spliced_cons (made fun f c' pm' ctv H1 s' I1 eN T1 hf hfn hfr hco => Calls.spliced_nil ⟨I1.kIn, ?_⟩)
  have go : codeAny (model X.prog X.w) X.A (.call (.ref g) ⟨[.ref f], []⟩) (CR L2.CX0 X.stack X.prog X.w H1 s' Q L2.E0) s' := by
    refine run_ofS (N := Ng) (ps := [a]) (us := [.ref f]) (vs := [.ref f]) lk hcg Sg hr I1.env0 (hb s' [.ref f] I1.kIn rfl) (.cons rfl .nil) rfl fun hr' => ?_
    have act := fun (W : WX) pn xe p1 p2 tk => pe_actW (i := 0) (W := W) (pn := pn) (xe := xe) (p1 := p1) (p2 := p2) (tb := t) I1 L hf hfn hfr (hbind _ _ _ _ _) tk hr' (fun A outer s H E hr2 => hbody A outer s H E f c' hr2) hNg hva hd hcd
    obtain ⟨t', ht', hq'⟩ := hG cdv f c' s' H1 Q (fun E H' Q' => t E σ H' Q') act hco (h H1 eN T1)
    exact ⟨t', ht'.nox, hq'⟩
  refine wpAny_call (codeAny_mono go fun r s2 hq => ?_)
  match r, hq with
  | .error e, hq => exact hq.elim
  | .ok (.ret u), hq => exact I1.after hq
  | .ok .next, hq => exact hq.elim
  | .ok .brk, hq => exact hq.elim
  | .ok .cont, hq => exact hq.elim
end
end L2
namespace L2
open PySem PySem.Spec PyProof.Rows
/-! ### the law's end with tables of code objects, where no repr is under way -/
section
variable {P : Program} {w : World} {K : PySem.W.Frag} {mg mb : Str → Option Value} {CX : CXT} {k : Nat} {fa a : Addr} {fd : FuncData} {x : Str} {sp : Sp} {s₁ : Shared} {vs : List Value} {ns : List Int} {cs : List (Addr × Addr)}
abbrev tab0 : Obj := { cls := .none, data := .fields #[] }
theorem law_callTG (KX : K.In s₁.heap) (hns : s₁.heap.Ns mainGlobals mg) (hb : s₁.heap.Ns builtinsNs mb) (hbb : ∀ x : Str, x ≠ "__name__" → mb x = bootBuiltins x) (hlim : s₁.heap.NoLimit) (hg : s₁.gens = #[])
    (hT : ∀ p ∈ cs, s₁.heap.get? p.2 = some tab0) (nT : ∀ p ∈ cs, K.lookup p.2 = none) (hC : ∀ p ∈ cs, PySem.W.CodeHd s₁.heap p.1 p.2)
    (hbm : ∃ (bm : Addr) (ob : Obj), mg "__builtins__" = some (.ref bm) ∧ bm ≠ builtinsNs ∧ s₁.heap.get? bm = some ob ∧ ob.cls = .type "module" ∧ ob.dict = some builtinsNs ∧ ob.data = .plain)
    (ha : s₁.heap.get? a = some { cls := .type "list", data := .seq vs.toArray }) (hi : IntsAre vs ns) (hl : ns.length ≤ sizeLine) (hr : Room k callerA)
    (F : ∀ base : Heap, K.In base → base.Ns mainGlobals mg → (∀ p ∈ cs, LamX.TabB base mg p.1 p.2) → FnG P w K mg base CX k fa fd [x] sp) (hbind : ∀ (s : Shared) (u : Value), BindsTo s fd ⟨[u], []⟩ [(x, u)])
    (hsp : ∀ H : Hp, (∀ p ∈ cs, H p.2 = some (.tbl #[])) → SqL K H a (ns.map V.int) → sp [.ref a] H (fun v _ => v = .bl true) fun _ _ _ => False)
    (hCX : ∀ H e s', CX [] H s₁ (fun _ _ _ => False) e s' → False) : LawGoal P w fa a s₁ := by
  have tabAt : ∀ b, b ∈ cs.map Prod.snd → s₁.heap.get? b = some tab0 := by
    rintro b hb'
    obtain ⟨p, hp, rfl⟩ := List.mem_map.mp hb'
    exact hT p hp
  have main : ∀ H : Hp, (∀ b ∈ cs.map Prod.snd, H b = some (.tbl #[])) → (∀ b, H b ≠ none → b ∈ cs.map Prod.snd ∨ (b = a ∧ K.lookup a = none ∧ ∃ ob ys, H b = some (.frz ob (.lst ys)))) →
      SqL K H a (ns.map V.int) → HOk P w H s₁.heap → LawGoal P w fa a s₁ := by
    intro H hH hO hS hok
    have up : ∀ {b : Addr} {o : Obj}, s₁.heap.get? b = some o → H b = none → (hidT s₁.heap H).get? b = some o := fun e n => hidT_get e n
    -- neither a list nor an empty record: untracked
    have free : ∀ {b : Addr} {o : Obj}, s₁.heap.get? b = some o → (∀ us m, o.data ≠ .seq us m) → o.data ≠ .fields #[] → H b = none := by
      intro b o e n1 n2
      refine Classical.byContradiction fun nz => ?_
      rcases hO b nz with hb' | ⟨rfl, _⟩
      · rw [tabAt b hb'] at e
        cases e
        exact n2 rfl
      · rw [ha] at e
        cases e
        exact n1 _ _ rfl
    have kind : ∀ {d d' : Data}, d = d' → (∀ us m, d' ≠ .seq us m) → d' ≠ .fields #[] → (∀ us m, d ≠ .seq us m) ∧ d ≠ .fields #[] := fun q n1 n2 => by
      rw [q]
      exact ⟨n1, n2⟩
    have nsUp : ∀ {b : Addr} {m : Str → Option Value}, s₁.heap.Ns b m → (hidT s₁.heap H).Ns b m := fun ⟨o, es, ep, e, d, r⟩ =>
      ⟨o, es, ep, up e (let z := kind d (fun _ _ q => nomatch q) (fun q => nomatch q); free e z.1 z.2), d, r⟩
    have KB : K.In (hidT s₁.heap H) := fun b o e => up (KX b o e) (Classical.byContradiction fun nz => by
      rcases hO b nz with hb' | ⟨rfl, hk, _⟩
      · obtain ⟨p, hp, rfl⟩ := List.mem_map.mp hb'
        have z := nT p hp
        rw [z] at e
        cases e
      · rw [hk] at e
        cases e)
    have TB : ∀ p ∈ cs, LamX.TabB (hidT s₁.heap H) mg p.1 p.2 := fun p hp => by
      have at2 := hT p hp
      obtain ⟨og, eg, ng, qg, dg, _⟩ := id hns
      refine { code := ?_, bm := ?_, gP := fun z => ?_ }
      · obtain ⟨o, us, y1, y2, y3, y4, y5, y6, y7, e1, r1, r2, r3, rest⟩ := hC p hp
        refine ⟨o, us, y1, y2, y3, y4, y5, y6, y7, up e1 (free e1 (fun _ _ z => ?_) fun z => ?_), r1, r2, r3, rest⟩
        · rw [r2] at z; cases z
        · rw [r2] at z
          cases z
          simp at r3
      · obtain ⟨bm, ob, b1, b2, b3, b4, b5, b6⟩ := hbm
        refine ⟨bm, ob, b1, b2, fun z => ?_, fun z => ?_, up b3 (let z := kind b6 (fun _ _ q => nomatch q) (fun q => nomatch q); free b3 z.1 z.2), b4, b5, b6⟩
        · rw [z, qg] at b3
          cases b3
          rw [dg] at b6
          cases b6
        · rw [z, at2] at b3
          cases b3
          cases b6
      · rw [z, at2] at qg
        cases qg
        cases dg
    have none0 : ∀ b : Addr, b ∉ frs ([] : List Env) := fun b z => absurd (show b ∈ ([] : List Addr) from z) (by simp)
    have E0 : Env0 P w K mg (hidT s₁.heap H) callerA [] s₁ H :=
      ⟨rfl, ⟨KB, nsUp hns, ⟨mb, nsUp hb, hbb⟩, let ⟨mc, h1, h2⟩ := hlim; ⟨mc, nsUp h1, h2⟩⟩, fun b o e => of_hidT e, Nat.le_of_eq (hidT_size _ _), trivial, fun b z => absurd z (none0 b), hok, .of_eq hg⟩
    have hT' : ∀ p ∈ cs, H p.2 = some (.tbl #[]) := fun p hp => hH _ (List.mem_map.mpr ⟨p, hp, rfl⟩)
    refine codeAny_mono ((F _ KB (nsUp hns) TB).run callerA [] s₁ H ⟨[.ref a], []⟩ [.ref a] [.ref a] _ _ rfl hr E0 (hbind s₁ (.ref a)) (.cons rfl .nil) (hsp H hT' hS)) fun r s' h => ?_
    match r, h with
    | .error e, h => exact (hCX H e s' h).elim
    | .ok .next, h => exact h.elim
    | .ok .brk, h => exact h.elim
    | .ok .cont, h => exact h.elim
    | .ok (.ret u), ⟨v, H', os, bare, un, hok', rz, q⟩ =>
      cases (show v = .bl true from q)
      cases (show u = Value.bool true from rz)
      have kept : ∀ b o, b ∉ cs.map Prod.snd → s₁.heap.get? b = some o → s'.heap.get? b = some o := by
        intro b o nb e
        cases hb' : H b with
        | none => exact un.keep b o e hb' (none0 b) (by simp)
        | some y =>
          rcases hO b (by rw [hb']; simp) with z | ⟨_, _, ob, ys, z⟩
          · exact absurd z nb
          · have o1 := (hok b _ z).1
            have o2 := (hok' b _ (un.frzs b ob _ z)).1
            rw [e] at o1
            cases o1
            exact o2
      have wider : ∀ b ∈ cs.map Prod.snd, ∃ p ∈ cs, p.2 = b ∧ ∃ more : Array Value, s'.heap.get? b = some { cls := .none, data := .fields more } := by
        intro b hb'
        obtain ⟨p, hp, rfl⟩ := List.mem_map.mp hb'
        obtain ⟨more, z⟩ := un.tbls p.2 #[] (hT' p hp)
        exact ⟨p, hp, rfl, _, hok' p.2 _ z⟩
      refine ⟨rfl, ⟨fun b o e => ?_, fun b o e => ?_⟩, os, bare⟩
      · by_cases hb' : b ∈ cs.map Prod.snd
        · obtain ⟨p, hp, rfl, more, hm⟩ := wider b hb'
          have at2 := hT p hp
          rw [at2] at e
          cases e
          exact .inr (.inl ⟨((hC p hp).tab at2).isCodeTable, rfl, #[], more, rfl, by rw [Array.empty_append]; exact hm⟩)
        · exact .inl (kept b o hb' e)
      · by_cases hb' : b ∈ cs.map Prod.snd
        · obtain ⟨p, hp, rfl, more, hm⟩ := wider b hb'
          exact ⟨_, hm⟩
        · exact ⟨o, kept b o hb' e⟩
  have rv := vals_ints hi
  have hlen := hi.length
  have aN : a ∉ cs.map Prod.snd := fun z => by
    have q := tabAt a z
    rw [ha] at q
    have d := congrArg Obj.data (Option.some.inj q)
    exact nomatch (show Data.seq vs.toArray _ = Data.fields #[] from d)
  by_cases hk : K.lookup a = none
  · refine main (fun b => if b = a then some (.frz { cls := .type "list", data := .seq vs.toArray } (.lst (ns.map V.int))) else if b ∈ cs.map Prod.snd then some (.tbl #[]) else none) (fun b hb' => ?_) (fun b nz => ?_) (.inl (.inr ⟨_, if_pos rfl⟩)) (fun b u z => ?_)
    · have nb : b ≠ a := fun z => aN (z ▸ hb')
      exact (if_neg nb).trans (if_pos hb')
    · by_cases e : b = a
      · exact .inr ⟨e, hk, _, _, if_pos e⟩
      · by_cases hb' : b ∈ cs.map Prod.snd
        · exact .inl hb'
        · exact absurd ((if_neg e).trans (if_neg hb')) nz
    · by_cases e : b = a
      · subst e
        cases (if_pos rfl).symm.trans z
        exact ⟨ha, by rw [List.length_map]; exact hl, vs, _, rv, ha⟩
      · have z' := (if_neg e).symm.trans z
        by_cases hb' : b ∈ cs.map Prod.snd
        · cases (if_pos hb').symm.trans z'
          exact tabAt b hb'
        · cases (if_neg hb').symm.trans z'
  · cases ho : K.lookup a with
    | none => exact absurd ho hk
    | some o =>
      have e := KX a o ho
      rw [ha] at e
      cases e
      refine main (fun b => if b ∈ cs.map Prod.snd then some (.tbl #[]) else none) (fun b hb' => if_pos hb') (fun b nz => ?_) (.inr ⟨_, vs.toArray, _, ho, rfl, rfl, rfl, by rw [List.size_toArray, hlen]; exact hl, by simpa using rv⟩) (fun b u z => ?_)
      · by_cases hb' : b ∈ cs.map Prod.snd
        · exact .inl hb'
        · exact absurd (if_neg hb') nz
      · by_cases hb' : b ∈ cs.map Prod.snd
        · cases (if_pos hb').symm.trans z
          exact tabAt b hb'
        · cases (if_neg hb').symm.trans z
end
/-- a law with tables -/
theorem walk_ofTG {l : PySem.W.OpenLaw} {n k : Nat} {q : Program} {loose : List Str} {XP : (Str → Option Value) → Heap → Prop} {YP : World → Heap → Prop} {d : DefRec} {CX : World → CXT} {x : Str}
    (hn : l.most = some n) (hn2 : n ≤ sizeLine) (hdf : d.params.defaults = []) (hr : Room k callerA)
    (F : ∀ (w : World) (mg : Str → Option Value) (fa : Addr) (h : Heap), YP w h → h.Ns mainGlobals mg → mg d.name = some (.ref fa) →
      ∃ (K : PySem.W.Frag) (fd : FuncData) (cs : List (Addr × Addr)) (sp : Sp), K.In h ∧ (∀ (s : Shared) (u : Value), BindsTo s fd ⟨[u], []⟩ [(x, u)]) ∧ (∀ p ∈ cs, h.get? p.2 = some tab0 ∧ K.lookup p.2 = none ∧ PySem.W.CodeHd h p.1 p.2) ∧
        (∀ (H : Hp) (a : Addr) (ns : List Int), ns.length ≤ n → (∀ p ∈ cs, H p.2 = some (.tbl #[])) → SqL K H a (ns.map V.int) → sp [.ref a] H (fun v _ => v = .bl true) fun _ _ _ => False) ∧
        ∀ base : Heap, K.In base → base.Ns mainGlobals mg → (∀ p ∈ cs, LamX.TabB base mg p.1 p.2) → FnG l.prog w K mg base (CX w) k fa fd [x] sp)
    (hCX : ∀ (w : World) (H : Hp) (s : Shared) (e : Value) (s' : Shared), CX w [] H s (fun _ _ _ => False) e s' → False) :
    PySem.W.WalkO q loose XP YP l.row.toRowW d [] (fun f vs => PySem.call f vs) := by
  refine Att.attach_call hn hdf fun w s₀ s₁ mg mb fa o pm cd doc a vs ns G Y ho hd hcd hmg hobj hints hlen hg => ?_
  obtain ⟨K, fd, cs, sp, KX, h1, ht, h2, h3⟩ := F w mg fa _ Y G.T.g hmg
  exact law_callTG KX G.T.g G.T.b G.T.builtins G.T.nolimit hg (fun p hp => (ht p hp).1) (fun p hp => (ht p hp).2.1) (fun p hp => (ht p hp).2.2) G.T.bmain hobj hints (Nat.le_trans hlen hn2) hr h3 h1 (fun H hH hS => h2 H a ns hlen hH hS) fun H e s' => hCX w H s₁ e s'
end L2
namespace MCH
open PySem PySem.Spec PyProof.Rows L2 PySem.W He
/-! ### the hook with errors, properties and empty tables -/
abbrev AlO : Type := AlP × Bool
def obK (prog : Program) (fa : List Fa) (fn : List DefD) (xs : List XD) (ps : List PD) (ex : Frag → Bool) (K : Frag) : AlP :=
  ((obsD fa fn K, (xs.all fun x => xB prog K x) && ex K, xs.map fun x => fnV K x), (ps.all fun x => pB K x), ps.map fun x => pFn K x)
def obsO (n : Nat) (prog : Program) (fa : List Fa) (fn : List DefD) (xs : List XD) (ps : List PD) (tf : List Defn) (ex : Frag → Bool) (g : Addr → Option Obj) : AlO :=
  (obK prog fa fn xs ps ex (frT g (asM g n)), tabsB g tf (frT g (asM g n)))
def valO (fn : List DefD) (xs : List XD) (ps : List PD) : AlO := (valP fn xs ps, true)
structure SaysO (prog : Program) (fa : List Fa) (fn : List DefD) (xs : List XD) (ps : List PD) (tf : List Defn) (ex : Frag → Bool) (h : Heap) (K : Frag) : Prop where
  p : SaysP prog fa fn xs ps ex K
  t : ∀ d ∈ tf, codeHdIn K (cT K d).1 (cT K d).2 = true ∧ K.lookup (cT K d).2 = none ∧ h.get? (cT K d).2 = some tab0
theorem saysO_of {n : Nat} {prog : Program} {fa : List Fa} {fn : List DefD} {xs : List XD} {ps : List PD} {tf : List Defn} {ex : Frag → Bool} {h : Heap} (e : obsO n prog fa fn xs ps tf ex h.get? = valO fn xs ps) : SaysO prog fa fn xs ps tf ex h (frT h.get? (asM h.get? n)) := by
  generalize hK : frT h.get? (asM h.get? n) = K
  have e1 : obK prog fa fn xs ps ex K = valP fn xs ps := by rw [← hK]; exact congrArg (fun z : AlO => z.1) e
  have e2 : tabsB h.get? tf K = true := by rw [← hK]; exact congrArg (fun z : AlO => z.2) e
  have m1 := congrArg (fun z : AlP => z.1.1) e1
  have m2 := congrArg (fun z : AlP => z.1.2.1) e1
  have m3 := congrArg (fun z : AlP => z.1.2.2) e1
  have p1 := congrArg (fun z : AlP => z.2.1) e1
  have p2 := congrArg (fun z : AlP => z.2.2) e1
  obtain ⟨b1, b2⟩ := ba m2
  refine ⟨⟨⟨m1, fun x hx => ⟨List.all_eq_true.mp b1 x hx, map_eq_at m3 x hx⟩, b2⟩, fun x hx => ⟨List.all_eq_true.mp p1 x hx, map_eq_at p2 x hx⟩⟩, fun d hd => ?_⟩
  obtain ⟨c1, c2⟩ := ba (List.all_eq_true.mp e2 d hd)
  cases q : h.get? (cT K d).2 with
  | none => rw [q] at c2; cases c2
  | some o =>
    rw [q] at c2
    refine ⟨c1, ?_, by rw [emptyTab_eq c2]⟩
    have z := frT_none (as := asM h.get? n) q c2
    rw [hK] at z
    exact z
def hookO (n : Nat) (prog : Program) (fa : List Fa) (fn : List DefD) (xs : List XD) (ps : List PD) (tf : List Defn) (ex : Frag → Bool) : PySem.W.Hook where
  α := AlO
  obs := fun s => obsO n prog fa fn xs ps tf ex s.heap.get?
  val := fun _ => valO fn xs ps
  says := fun w h => ∃ K : PySem.W.Frag, K.In h ∧ SaysO prog fa fn xs ps tf ex h K
  of := fun _ _ e => ⟨_, frT_in, saysO_of e⟩
  keeps := fun _ _ _ ⟨K, hK, c⟩ k => ⟨K, PySem.W.Frag.In.keeps hK k, ⟨c.p, fun d hd => let ⟨z1, z2, z3⟩ := c.t d hd; ⟨z1, z2, k _ _ z3⟩⟩⟩
theorem obsO_eq {n : Nat} {prog : Program} {fa : List Fa} {fn : List DefD} {xs : List XD} {ps : List PD} {tf : List Defn} {ex : Frag → Bool} {g : Addr → Option Obj} {s : Shared} (h : ∀ a, g a = s.heap.get? a) : obsO n prog fa fn xs ps tf ex g = (hookO n prog fa fn xs ps tf ex).obs s := by
  have e : g = s.heap.get? := funext h
  rw [e] <;> rfl
end MCH
namespace PySem
namespace MEX
open PySem.W PySem.Calls PyProof.Rows PySem.HandSPX
/-! ### own errors straight over a built-in one, made with keywords, too -/
structure BaseE (B newId initId : String) (bm : List Value) : Prop where
  F : ExcBaseFacts B newId initId bm
  KF : KxsFacts B initId
  pass : ∀ self : Value, refuseLoop self "__setattr__" bm = pure ()
  ob : bm.contains (.type "object") = true
abbrev bmV : List Value := [.type "ValueError", .type "Exception", .type "BaseException", .type "object"]
abbrev bmL : List Value := [.type "LookupError", .type "Exception", .type "BaseException", .type "object"]
abbrev bmO : List Value := [.type "OverflowError", .type "ArithmeticError", .type "Exception", .type "BaseException", .type "object"]
abbrev bmR : List Value := [.type "RuntimeError", .type "Exception", .type "BaseException", .type "object"]
theorem baseV : BaseE "ValueError" "ValueError.__new__" "ValueError.__init__" bmV := ⟨F.excBase_ValueError, kxs_ValueError, F.store_ValueError.passes, by decide +kernel⟩
theorem baseL : BaseE "LookupError" "LookupError.__new__" "LookupError.__init__" bmL := ⟨F.excBase_LookupError, kxs_LookupError, F.store_LookupError.passes, by decide +kernel⟩
theorem baseO : BaseE "OverflowError" "OverflowError.__new__" "OverflowError.__init__" bmO := ⟨F.excBase_OverflowError, kxs_OverflowError, F.store_OverflowError.passes, by decide +kernel⟩
theorem baseR : BaseE "RuntimeError" "RuntimeError.__new__" "RuntimeError.__init__" bmR := ⟨F.excBase_RuntimeError, kxs_RuntimeError, F.store_RuntimeError.passes, by decide +kernel⟩
section
variable {M : Model} {A : Around} {E : Value → Shared → Prop} {h : Heap} {g : Array GenState} {d : Drawn} {t : Nat} {os : OsState}
variable {nm q : Str} {C N : Addr} {bs bm : List Value} {hdct : Bool} {sn : List Str} {sub : List Value} {ab : Bool} {col : Option Bool} {dd : Option Addr} {k0 k1 k2 k3 k5 : Option Value} {B newId initId : String}
theorem check_new_kw (F : ExcBaseFacts B newId initId bm) {rest : List Value} {kw : List (Str × Value)} {Q : Unit → Shared → Prop}
    (hC : h.get? C = some (excClassObj nm q C N bs bm hdct sn sub ab col dd k0 k1 k2 k3 k5 newId)) (hq : Q () ⟨h, g, d, t, os⟩) : wpAny M A (checkBuiltinCall newId ⟨.ref C :: rest, kw⟩) Q E ⟨h, g, d, t, os⟩ := by
  have hcont : (Value.ref C :: bm).contains (.type B) = true := by rw [List.contains_cons, F.hasB, Bool.or_true]
  have hstar := F.noStar
  simp only [checkBuiltinCall, F.newKind, F.newSplit, F.newRow]
  repeat (first | refine wpAny_loadPart_at hC ?_ | (refine wpAny_isSubtype_exc hC ?_; rw [hcont]) | refine wpAny_staticBase_exc hC ?_ | refine wpAny_madeBy_exc hC ?_ | simp only [bne_self_eq_false, Bool.false_eq_true, if_false] | wp_step)
  exact hq
theorem check_type_kw {rest : List Value} {kw : List (Str × Value)} {Q : Unit → Shared → Prop} (hC : h.get? C = some (excClassObj nm q C N bs bm hdct sn sub ab col dd k0 k1 k2 k3 k5 newId))
    (hq : Q () ⟨h, g, d, t, os⟩) : wpAny M A (checkBuiltinCall "type.__call__" ⟨.ref C :: rest, kw⟩) Q E ⟨h, g, d, t, os⟩ := by
  have f3 := tc_sub
  have hT : (⟨h, g, d, t, os⟩ : Shared).TypeIs (.ref C) "type" := ⟨_, hC, rfl⟩
  simp only [checkBuiltinCall, tc_kind, tc_split]
  repeat (any_goals (first | assumption | with_reducible refine wpAny_loadPart_at hC ?_ | with_reducible refine wpAny_onRaise ?_ | with_reducible refine wpAny_map ?_ | wp_step))
end
section
variable {prog : Program} {w : World} {A : Around} {E : Value → Shared → Prop} {R : Result → Shared → Prop} {h : Heap} {g : Array GenState} {d : Drawn} {t : Nat} {os : OsState}
variable {nm q : Str} {C N : Addr} {bs bm : List Value} {hdct : Bool} {sn : List Str} {sub : List Value} {ab : Bool} {col : Option Bool} {dd : Option Addr} {k0 k1 k2 k3 k5 : Option Value} {B newId initId : String}
theorem new_kw (F : ExcBaseFacts B newId initId bm) {rest : List Value} {kw : List (Str × Value)}
    (hC : h.get? C = some (excClassObj nm q C N bs bm hdct sn sub ab col dd k0 k1 k2 k3 k5 newId))
    (hq : R (.ok (.ret (.ref (h.objs.size + 1)))) ⟨(h.push { cls := .type "tuple", data := .seq rest.toArray }).push
      { cls := .ref C, data := .fields #[.ref h.objs.size, .none, .none, .none, .bool false, .none] }, g, d, t, os⟩) (hrest : rest.length ≤ sizeLine) :
    codeAny (model prog w) A (.builtin newId ⟨.ref C :: rest, kw⟩) R ⟨h, g, d, t, os⟩ := by
  have hends := F.ends
  have hcB : (Value.ref C :: bm).contains (.type B) = true := by rw [List.contains_cons, F.hasB, Bool.or_true]
  have hcA : (Value.ref C :: bm).contains (.type "AttributeError") = false := by rw [List.contains_cons, F.noAttr]; rfl
  have hcN : (Value.ref C :: bm).contains (.type "NameError") = false := by rw [List.contains_cons, F.noName]; rfl
  refine codeAny_builtinAt F.entry ?_
  unfold Builtin.«BaseException.__new__»
  refine wpAt_bind ?_
  show wpAt _ _ _ (stack >>= _) _ _ _
  refine wpAt_bind (wpAt_stack fun p below => wpAt_of_wpAny ?_)
  wp_walk
  refine wpAt_of_wpAny ?_
  rw [F.owner]
  repeat (first | with_reducible refine wpAny_madeHere_exc F.canon hC ?_ | with_reducible refine wpAny_loadPart_at hC ?_ | (with_reducible refine wpAny_isSubtype_exc hC ?_; first | rw [hcB] | rw [hcA] | rw [hcN]) | wp_step)
  show R _ _
  rw [Heap.size_push]
  exact hq
theorem type_call_kw (F : ExcBaseFacts B newId initId bm) {rest : List Value} {kw : List (Str × Value)} {fI : Addr} {Q : Fin → Shared → Prop}
    (hC : h.get? C = some (excClassObj nm q C N bs bm hdct sn sub ab col dd k0 k1 k2 k3 k5 newId))
    (hi : W.Looks (model prog w) h (typeLookup (.ref C) "__init__") (some (.ref fI))) (hb : ∀ self, W.Looks (model prog w) h (bindSpecial (.ref fI) self) (.ref fI, [self])) (hrest : rest.length ≤ sizeLine)
    (hq : codeAny (model prog w) A (.call (.ref fI) ⟨.ref (h.objs.size + 1) :: rest, kw⟩)
      (fun r s' => match r with | .ok (.ret v) => v = .none ∧ Q (.done (.ret (.ref (h.objs.size + 1)))) s' | .ok _ => False | .error e => E e s')
      ⟨(h.push (W.kdv_tup rest)).push (excO C h.objs.size), g, d, t, os⟩) :
    wpAny (model prog w) A (Builtin.«type.__call__» ⟨.ref C :: rest, kw⟩) Q E ⟨h, g, d, t, os⟩ := by
  repeat (first | with_reducible refine wpAny_loadPart_at hC ?_ | with_reducible refine wpAny_madeBy_exc hC ?_ | wp_step)
  refine codeAny_call_builtin_code (Code.quiet_builtin _ F.quiet) (check_new_kw F hC ?_)
  refine new_kw F hC ?_ hrest
  show wpAny _ _ _ _ _ _
  have k : ∀ b o, h.get? b = some o → ((h.push (W.kdv_tup rest)).push (excO C h.objs.size)).get? b = some o := fun b o e => Heap.get?_push_of_some _ (Heap.get?_push_of_some _ e)
  have hC₁ := k _ _ hC
  have hget : ((h.push (W.kdv_tup rest)).push (excO C h.objs.size)).get? (h.objs.size + 1) = some (excO C h.objs.size) := by heap_get
  have hcC : (Value.ref C :: bm).contains (.ref C) = true := by simp
  have i1 := hi.keeps k
  have b1 := (hb (.ref (h.objs.size + 1))).keeps k
  unfold isInstance
  repeat (first | with_reducible refine wpAny_loadPart_at hget ?_ | (with_reducible refine wpAny_isSubtype_exc hC₁ ?_; rw [hcC]) | wp_step)
  show wpAny _ _ (typeLookup (.ref C) _) _ _ _
  refine i1.at ?_
  refine wpAny_holding (wpAny_bind (b1.at ?_))
  refine wpAny_bind (wpAny_call (codeAny_mono hq fun r s' z => ?_))
  rcases r with e | (v | _ | _ | _) <;> first | exact z | exact z.elim | skip
  obtain ⟨rfl, z⟩ := z
  first
    | exact wpAny_pure (wpAny_pure z)
    | (wp_walk; exact z)
theorem call_kw (F : ExcBaseFacts B newId initId bm) {rest : List Value} {kw : List (Str × Value)} {fI : Addr}
    (hC : h.get? C = some (excClassObj nm q C N bs bm hdct sn sub ab col dd k0 k1 k2 k3 k5 newId))
    (hi : W.Looks (model prog w) h (typeLookup (.ref C) "__init__") (some (.ref fI))) (hb : ∀ self, W.Looks (model prog w) h (bindSpecial (.ref fI) self) (.ref fI, [self])) (hrest : rest.length ≤ sizeLine)
    (hq : codeAny (model prog w) (A.under (.builtin "type.__call__" ⟨.ref C :: rest, kw⟩)) (.call (.ref fI) ⟨.ref (h.objs.size + 1) :: rest, kw⟩) (W.InitBack (h.objs.size + 1) R)
      ⟨(h.push (W.kdv_tup rest)).push (excO C h.objs.size), g, d, t, os⟩) :
    codeAny (model prog w) A (.call (.ref C) ⟨rest, kw⟩) R ⟨h, g, d, t, os⟩ := by
  have f1 := tc_lookup
  have f2 := tc_bind (.ref C)
  have hTy : (⟨h, g, d, t, os⟩ : Shared).TypeIs (.ref C) "type" := ⟨_, hC, rfl⟩
  refine codeAny_of_tree ?_
  show wpAny _ _ (callAny (.ref C) _) _ _ _
  repeat (any_goals (first | assumption | with_reducible refine wpAny_loadPart_at hC ?_ | wp_step))
  refine ⟨rfl, ?_⟩
  refine codeAny_call_builtin_at (Code.quiet_builtin _ (by decide +kernel)) entry_typeCall (check_type_kw hC (type_call_kw F hC hi hb hrest ?_))
  refine codeAny_mono hq fun r s' z => ?_
  rcases r with e | (v | _ | _ | _) <;> exact z
end
/-! ### stores into an error over any of these -/
section
open Builtin Builtin.ObjectAttr
variable {prog : Program} {w : World} {A : Around} {E : Value → Shared → Prop} {R : Result → Shared → Prop} {hp : Heap} {g : Array GenState} {d : Drawn} {t : Nat} {os : OsState}
theorem osa_new {K : W.Frag} {name : Str} {tk : Tok} {v : Value} {x C : Addr} {fv : Array Value} {cd : ClassData}
    (X : K.In hp) (hx : hp.get? x = some { cls := .ref C, data := .fields fv }) (hcd : W.clsIn K C = some cd) (hm : refuseLoop (.ref x) "__setattr__" cd.mro = pure ()) (ne : cd.mro.isEmpty = false) (hob : cd.mro.contains (.type "object") = true) (hh : cd.hasDict = true) (ha : W.findIn K (.ref C) name = some none)
    (hq : ∀ h' tk' dx, (∀ b o, b ≠ x → hp.get? b = some o → h'.get? b = some o) → hp.objs.size ≤ dx → dx ≠ x → h'.get? x = some { cls := .ref C, dict := some dx, data := .fields fv } →
      h'.Ns1 dx (fun y => if y = name then some v else none) → R (.ok (.ret .none)) ⟨h', g, d, tk', os⟩) :
    codeAny (model prog w) A (.call (.builtin "object.__setattr__") ⟨[.ref x, .str name tk, v], []⟩) R ⟨hp, g, d, t, os⟩ := by
  have I : W.InstAt hp x { cls := .ref C, data := .fields fv } C none := ⟨hx, rfl, rfl, trivial⟩
  have SF := F.store_object
  have hxs : x ≠ hp.objs.size := Nat.ne_of_lt (Heap.lt_size hx)
  have sub : W.Looks (model prog w) hp (isInstance (.ref x) (.type "object")) true := I.type.andThen (W.looks_mroIn X (by unfold W.mroIn; rw [hcd, Option.bind_some, if_neg (by rw [ne]; decide), hob]))
  refine codeAny_call_builtin SF.slot.plain SF.entry (@W.check_slot (model prog w) _ _ ⟨hp, g, d, t, os⟩ "object.__setattr__" "object" "__setattr__" (.ref x) [.str name tk, v] [] _ SF.kind SF.split sub (SF.args (.ref x) (.str name tk) v) ?_)
  have hmr : W.Looks (model prog w) hp (mroOf (.ref C)) cd.mro := (W.looks_clsIn X hcd).andThen .now
  have L3 : W.Looks (model prog w) hp (storeTaker? none) none := .now
  have hcls : W.Looks (model prog w) hp (classData C) cd := W.looks_clsIn X hcd
  rw [W.osa_eq, refuse_eq]
  refine wpAny_bind (wpAny_bind (I.type.at (wpAny_bind (hmr.at ?_))))
  rw [hm]
  refine wpAny_pure (wpAny_bind (I.type.at (wpAny_bind ((W.looks_findIn X ha).at (wpAny_bind (L3.at ?_))))))
  show wpAny _ _ (storeInOwnDict (.ref x) (.ref C) (.str name tk) name v false) _ _ _
  obtain ⟨nm, bs, mro, ns, qn, hd, sn, sb, ab, col, del⟩ := cd
  dsimp only at hh
  subst hh
  unfold storeInOwnDict ownDictForStores
  repeat (first | with_reducible refine store_in_new ?_ ?_ | with_reducible refine wpAny_loadPart_at hx ?_ | with_reducible refine hcls.at ?_ | wp_step)
  · exact ⟨_, #[], _, (Heap.get?_update_ne _ _ _ _ hxs.symm).trans (Heap.get?_push_at rfl rfl), rfl, fun e he => absurd he (by simp), fun _ => rfl⟩
  · intro h' tk' hn' hs
    have hx₁ : (hp.push { cls := .type "dict", data := .dict #[] }).get? x = some { cls := .ref C, data := .fields fv } := Heap.get?_push_of_some _ hx
    refine hq h' tk' hp.objs.size (fun b o hb ho => ?_) (Nat.le_refl _) hxs.symm ?_ hn'
    · exact (hs.2 b (Nat.ne_of_lt (Heap.lt_size ho))).trans ((Heap.get?_update_ne _ _ _ _ hb).trans (Heap.get?_push_of_some _ ho))
    · exact (hs.2 x hxs).trans (Heap.get?_update_self _ hx₁ rfl)
theorem osa_oldB {K : W.Frag} {name : Str} {tk : Tok} {v : Value} {x C dx : Addr} {fv : Array Value} {cd : ClassData} {m0 : Str → Option Value} {nl : List Str}
    (X : K.In hp) (hx : hp.get? x = some { cls := .ref C, dict := some dx, data := .fields fv }) (hns : hp.Ns1 dx m0) (hw : Within m0 nl) (hz : nl.length ≤ 1000) (hcd : W.clsIn K C = some cd) (hm : refuseLoop (.ref x) "__setattr__" cd.mro = pure ()) (ne : cd.mro.isEmpty = false) (hob : cd.mro.contains (.type "object") = true) (hh : cd.hasDict = true)
    (ha : W.findIn K (.ref C) name = some none)
    (hq : ∀ h' tk', (∀ b o, b ≠ dx → hp.get? b = some o → h'.get? b = some o) → h'.Ns1 dx (fun y => if y = name then some v else m0 y) → R (.ok (.ret .none)) ⟨h', g, d, tk', os⟩) :
    codeAny (model prog w) A (.call (.builtin "object.__setattr__") ⟨[.ref x, .str name tk, v], []⟩) R ⟨hp, g, d, t, os⟩ := by
  obtain ⟨oD, esD, epD, hoD, hdD, _⟩ := hns.count hw
  have I : W.InstAt hp x { cls := .ref C, dict := some dx, data := .fields fv } C (some oD) := ⟨hx, rfl, rfl, hoD⟩
  have SF := F.store_object
  have sub : W.Looks (model prog w) hp (isInstance (.ref x) (.type "object")) true := I.type.andThen (W.looks_mroIn X (by unfold W.mroIn; rw [hcd, Option.bind_some, if_neg (by rw [ne]; decide), hob]))
  refine codeAny_call_builtin SF.slot.plain SF.entry (@W.check_slot (model prog w) _ _ ⟨hp, g, d, t, os⟩ "object.__setattr__" "object" "__setattr__" (.ref x) [.str name tk, v] [] _ SF.kind SF.split sub (SF.args (.ref x) (.str name tk) v) ?_)
  have hmr : W.Looks (model prog w) hp (mroOf (.ref C)) cd.mro := (W.looks_clsIn X hcd).andThen .now
  have L3 : W.Looks (model prog w) hp (storeTaker? none) none := .now
  have hcls : W.Looks (model prog w) hp (classData C) cd := W.looks_clsIn X hcd
  rw [W.osa_eq, refuse_eq]
  refine wpAny_bind (wpAny_bind (I.type.at (wpAny_bind (hmr.at ?_))))
  rw [hm]
  refine wpAny_pure (wpAny_bind (I.type.at (wpAny_bind ((W.looks_findIn X ha).at (wpAny_bind (L3.at ?_))))))
  show wpAny _ _ (storeInOwnDict (.ref x) (.ref C) (.str name tk) name v false) _ _ _
  obtain ⟨nm, bs, mro, ns, qn, hd, sn, sb, ab, col, del⟩ := cd
  dsimp only at hh
  subst hh
  unfold storeInOwnDict ownDictForStores
  repeat (first | with_reducible refine PySem.OEX.store_in_old hns hw hz ?_ | with_reducible refine wpAny_loadPart_at hx ?_ | with_reducible refine hcls.at ?_ | wp_step)
  intro h' tk' hn' hs
  exact hq h' tk' (fun b o hb ho => (hs.2 b hb).trans ho) hn'
end
end MEX
end PySem
namespace PySem
namespace MEX
open PySem.W PySem.Calls PyProof.Rows PySem.HandSPX
/-- what the written part says of the class at C, straight over B -/
structure ECls (prog : Program) (K : Frag) (mg : Str → Option Value) (nm : Str) (C fI : Addr) (B newId initId : String) (bm : List Value) : Prop where
  base : BaseE B newId initId bm
  gC : mg nm = some (.ref C)
  cls : ∃ nm q N bs sn sub ab col dd k0 k1 k2 k3 k5, K.lookup C = some (excClassObj nm q C N bs bm true sn sub ab col dd k0 k1 k2 k3 k5 newId)
  sa : findIn K (.ref C) "__setattr__" = some (some (.builtin "object.__setattr__"))
  ga : findIn K (.ref C) "__getattribute__" = some (some (.builtin "BaseException.__getattribute__"))
  gg : findIn K (.ref C) "__getattr__" = some none
  iC : findIn K (.ref C) "__init__" = some (some (.ref fI))
  tC : typeIn K (.ref fI) = some (.type "function")
  kC : keepIn K (.ref C) = true
  exC : subIn K (.ref C) (.type "BaseException") = some true
  beC : subIn K (.ref C) (.type B) = some true
  hdC : hasDictIn K C = true
  mC : mroIn K C (.ref C) = some true
  su : ks_superIn K C C "__init__" = some (some (.builtin initId))
  tp : nsIn K cStatics "thirdparty.any" = some none
  noS : mg "super" = none
  top : (prog.main.scope.names.lookup ("super" : Str)).isSome = false
  cl1 : findIn K (.ref C) "__class__" = some (some (.builtin "object.__class__"))
  cl2 : specialIn K (.builtin "object.__class__") "__get__" = some (some (.builtin "getset_descriptor.__get__"))
  cl3 : takesIn K (.builtin "object.__class__") = some true
  cl4 : mroIn K C (.type "object") = some true
/-- what __init__ leaves of a fresh error at x -/
structure InitN (fs : List (Str × Value)) (h h' : Heap) (x C t1 : Addr) (d : Option Addr) : Prop where
  keep : ∀ b o, b ≠ x → h.get? b = some o → h'.get? b = some o
  obj : h'.get? x = some { cls := .ref C, dict := d, data := .fields #[.ref t1, .none, .none, .none, .bool false, .none] }
  dict : match d with
    | none => fs = []
    | some dx => h.objs.size ≤ dx ∧ dx ≠ x ∧ h'.Ns1 dx (fun y => fs.lookup y)
/-- a made error -/
structure MadeN (fs : List (Str × Value)) (h h' : Heap) (e C : Addr) (d : Option Addr) : Prop where
  keep : ∀ b o, h.get? b = some o → h'.get? b = some o
  new : h.objs.size ≤ e
  obj : ∃ t1, h'.get? e = some { cls := .ref C, dict := d, data := .fields #[.ref t1, .none, .none, .none, .bool false, .none] }
  dict : match d with
    | none => fs = []
    | some dx => h.objs.size ≤ dx ∧ dx ≠ e ∧ h'.Ns1 dx (fun y => fs.lookup y)
theorem lk1 (f : Str) (v : Value) : (fun y => if y = f then some v else none) = (fun y => List.lookup y [(f, v)]) := by
  funext y
  by_cases h : y = f
  · subst h; simp [List.lookup]
  · have q : (y == f) = false := by simpa using h
    simp [List.lookup, q, h]
theorem lk2 (f g : Str) (v u : Value) : (fun y => if y = g then some u else List.lookup y [(f, v)]) = (fun y => List.lookup y [(g, u), (f, v)]) := by
  funext y
  by_cases h : y = g
  · subst h; simp [List.lookup]
  · have q : (y == g) = false := by simpa using h
    simp [List.lookup, q, h]
def iA0 (p0 : Pos) : Arguments := { posonlyargs := [], args := [{ arg := "self", annotation := none, pos := p0 }], vararg := none, kwonlyargs := [], kw_defaults := [], kwarg := none, defaults := [] }
def iB0 (q1 q2 q3 q5 q6 : Pos) : List Stmt := [.Expr (.Call (.Attribute (.Call (.Name "super" q1) [] [] q2) "__init__" q3) [] [] q5) q6]
def iS0 : Scope := { kind := .function, names := [(PySem.Str.ofString "self", .local), (PySem.Str.ofString "__class__", .free), (PySem.Str.ofString "super", .globalImplicit)], isGenerator := false, isCoroutine := false, more := [] }
structure FOk0 : Prop where
  lc : iS0.names.lookup ("__class__" : Str) = some .free
  ls : iS0.names.lookup ("super" : Str) = some .globalImplicit
  bp : ∀ (qual : Str) (p0 : Pos) (body : List Stmt) (doc pm : Value) (an : Option Addr) (cd ct : Value) (cc : Addr) (x : Value), bindArgs (ksFn "__init__" qual (iA0 p0) body iS0 .none .none doc pm an cd ct cc) ⟨[x], []⟩ = pure ([(("self" : Str), x)] : List (Str × Value))
structure EFn0 (prog : Program) (K : Frag) (C fI : Addr) : Prop where
  fok : FOk0
  fn : ∃ (qual : Str) (oc : Value) (od : Option Addr) (doc pm : Value) (an : Option Addr) (cda : Addr) (ct : Value) (cc : Addr) (osl : Array (Option Value)) (p0 q1 q2 q3 q5 q6 : Pos),
    K.lookup fI = some ⟨oc, od, .func (ksFn "__init__" qual (iA0 p0) (iB0 q1 q2 q3 q5 q6) iS0 .none .none doc pm an (.ref cda) ct cc), osl⟩ ∧ codeIn K (.ref cda) qual = true ∧
    (∃ ccl cdd vs ccs file tf, K.lookup cda = some ⟨ccl, cdd, .fields vs, ccs⟩ ∧ vs[2]? = some (.str file tf) ∧ ((prog.main.file : Str) == file) = true) ∧
    (∃ cl cld csl, K.lookup cc = some ⟨cl, cld, .cell (some (.ref C)), csl⟩) ∧ (q3.endLine == q5.line) = true
section
variable {prog : Program} {w : World} {A : Around} {E : Value → Shared → Prop} {R : Result → Shared → Prop} {s : Shared} {K : Frag} {mg : Str → Option Value} {nm : Str} {C fI : Addr} {B newId initId : String} {bm : List Value}
theorem sup_init0 (T : ECls prog K mg nm C fI B newId initId bm) (G : EFn0 prog K C fI ) {x t0 : Addr} {args : Args} (hbd : ∀ (qual : Str) (p0 : Pos) (body : List Stmt) (doc pm : Value) (an : Option Addr) (cd ct : Value) (cc : Addr), bindArgs (ksFn "__init__" qual (iA0 p0) body iS0 .none .none doc pm an cd ct cc) args = pure ([(("self" : Str), Value.ref x)] : List (Str × Value)))
    (X : K.In s.heap) (hlim : s.heap.NoLimit) (hx : s.heap.get? x = some (excO C t0)) (hnx : K.lookup x = none) (hroom : A.depth < recursionLimit)
    (hG : s.heap.Ns mainGlobals mg) (hB : ∃ mb, s.heap.Ns builtinsNs mb ∧ ∀ x : Str, x ≠ "__name__" → mb x = bootBuiltins x)
    (hq : ∀ h' tk d t1, InitN [] s.heap h' x C t1 d → R (.ok (.ret .none)) { s with heap := h', toks := tk }) :
    codeAny (model prog w) A (.call (.ref fI) args) R s := by
  obtain ⟨qual, oc, od, doc, pm, an, cda, ct, cc, osl, p0, q1, q2, q3, q5, q6, hl, hcd, ⟨ccl, cdd, vs, ccs, file, tf, hcode, hvs, hfile⟩, ⟨cl, cld, csl, hcell⟩, hpos⟩ := G.fn
  obtain ⟨cnm, q, N, bs, sn, sub, ab, col, dd, k0, k1, k2, k3, k5, hC⟩ := T.cls
  obtain ⟨mb, hBn, hBv⟩ := hB
  have hcl : clsIn K C = some { name := cnm, bases := bs, mro := .ref C :: bm, ns := N, qualname := q, hasDict := true, slotNames := sn, subclasses := sub, abstract := ab, collection := col, hasDel := false } := by unfold clsIn; rw [hC] <;> rfl
  obtain ⟨hp, g, d, tk, os⟩ := s
  refine ks_codeAny_call_defAt (fd := ksFn "__init__" qual (iA0 p0) (iB0 q1 q2 q3 q5 q6) iS0 .none .none doc pm an (.ref cda) ct cc) (body := (iB0 q1 q2 q3 q5 q6)) (binds := [(("self" : Str), Value.ref x)]) hroom (X _ _ hl) rfl hlim (codeRec_of X hcd) rfl (BindsTo.of_eq (hbd _ _ _ _ _ _ _ _ _)) ?hce ?hlo (fun h₁ hns hk₁ => ?_) rfl rfl rfl
  case hce => intro y hy; simp only [iS0, List.mem_cons, List.not_mem_nil, or_false] at hy; rcases hy with rfl | rfl | rfl <;> simp
  case hlo =>
    intro y hy
    simp only [List.mem_cons, List.not_mem_nil, or_false] at hy
    subst hy; rfl
  have X₁ : K.In h₁ := X.keeps hk₁
  have hx₁ := hk₁ _ _ hx
  have mself : (fun y => ([("self", Value.ref x)] : List (Str × Value)).reverse.lookup y) "self" = some (.ref x) := by simp [List.lookup]
  have hns' : Heap.Ns h₁ hp.objs.size (fun y => ([("self", Value.ref x)] : List (Str × Value)).reverse.lookup y) := hns
  have I₁ : InstAt h₁ x (excO C t0) C none := ⟨hx₁, rfl, rfl, trivial⟩
  show _root_.PySem.wpAt _ _ _ (execs (iB0 q1 q2 q3 q5 q6) (ksEnv qual iS0 hp.objs.size fI (.ref cda) cc)) _ _ _
  have hmc : ∀ ov, methodCall (.Call (.Name "super" q1) [] [] q2) "__init__" q3 q5 (ksEnv qual iS0 hp.objs.size fI (.ref cda) cc) ov 0 (backTo q5 (starEach [] (ksEnv qual iS0 hp.objs.size fI (.ref cda) cc))) [] = (do
      let (ff, first) ← holding [ov] (getMethod ov "__init__" (L2.plainOf (.Call (.Name "super" q1) [] [] q2) (ksEnv qual iS0 hp.objs.size fI (.ref cda) cc)))
      callWith q5 ff first (backTo q5 (starEach [] (ksEnv qual iS0 hp.objs.size fI (.ref cda) cc))) []) := fun ov => L2.mcall_line rfl hpos
  refine ks_wpAt_execs_cons (ks_wpAt_Expr_any (ks_wpAt_MethodCall (pl := L2.plainOf (.Call (.Name "super" q1) [] [] q2) (ksEnv qual iS0 hp.objs.size fI (.ref cda) cc)) ?_ ?he))
  case he =>
    show (do
      let ov ← attributeBase (.Call (.Name "super" q1) [] [] q2) "__init__" (ksEnv qual iS0 hp.objs.size fI (.ref cda) cc) (eval (.Call (.Name "super" q1) [] [] q2) (ksEnv qual iS0 hp.objs.size fI (.ref cda) cc))
      standAt q3.atName
      methodCall (.Call (.Name "super" q1) [] [] q2) "__init__" q3 q5 (ksEnv qual iS0 hp.objs.size fI (.ref cda) cc) ov 0 (backTo q5 (starEach [] (ksEnv qual iS0 hp.objs.size fI (.ref cda) cc))) []) = _
    simp only [hmc]
  refine ks_wpAt_super_base (env := ksEnv qual iS0 hp.objs.size fI (.ref cda) cc) (f := fI) (cc := cda) G.fok.ls G.fok.lc (by decide) rfl (X₁ _ _ hl) rfl rfl rfl (X₁ _ _ hcode) rfl hvs hfile T.top ?_
  refine ks_loadName_global rfl G.fok.ls (loadGlobal_builtin (env := ksEnv qual iS0 hp.objs.size fI (.ref cda) cc) (hG.keeps hk₁) T.noS (hBn.keeps hk₁) ((hBv _ (by decide +kernel)).trans (by first | rfl | decide +kernel | kernel_rfl)) ⟨rfl, ?_⟩)
  refine wpAny_loadName_free rfl G.fok.lc rfl ⟨_, X₁ _ _ hcell, rfl⟩ ?_
  refine wpAny_loadName_local rfl rfl hns' mself ?_
  refine ks_wpAny_isType_cls (X₁ _ _ hC) rfl ⟨rfl, ?_⟩
  refine ks_wpAny_call_super (X₁ _ _ hC) rfl hx₁ rfl (fun c e => by cases e) (looks_mroIn X₁ T.mC) (fun h₂ e₂ k₂ => ?_)
  have X₂ : K.In h₂ := X₁.keeps k₂
  have hx₂ := k₂ _ _ hx₁
  have I₂ : InstAt h₂ x (excO C t0) C none := ⟨hx₂, rfl, rfl, trivial⟩
  have hns₂ := hns'.keeps k₂
  have hal : alongIn K "__init__" (((Value.ref C :: bm).dropWhile (· != .ref C)).drop 1) = some (some (.builtin initId)) := by
    have z := T.su
    unfold ks_superIn at z
    rw [hcl] at z
    exact z
  refine kxs_getMethod T.base.KF (so := h₁.objs.size) (D := C) (x := x) (C := C) (l₀ := .ref C :: bm) (K := K) e₂ (looks_opaque X₂ T.tp) (fun A Q E s k q => wpAny_bind ((looks_clsIn X₂ hcl) A _ E s k (wpAny_pure q))) rfl X₂ hal (I₂.type.andThen (looks_subIn X₂ T.beC)) (ks_ne X₂ I₂ hcl) (by decide) ?_
  have k₃ : ∀ b o, h₂.get? b = some o → (h₂.push (kxs_mw initId x)).get? b = some o := fun b o e => Heap.get?_push_of_some _ e
  have hmw : (h₂.push (kxs_mw initId x)).get? h₂.objs.size = some (kxs_mw initId x) := Heap.get?_push_at rfl rfl
  refine kxs_callWith (i := initId) (x := x) rfl (evalArgs_empty ⟨hmw, ?_⟩)
  have FB := T.base.F
  refine wpAny_call (codeAny_of_tree ?_)
  show wpAny _ _ (callAny (.ref h₂.objs.size) ⟨[], []⟩) _ _ _
  simp only [callAny]
  refine wpAny_bind (wpAny_load hmw ?_)
  simp only [kxs_mw, show (Value.type "method-wrapper" == Value.type "method" || Value.type "method-wrapper" == Value.type "builtin_function_or_method" || Value.type "method-wrapper" == Value.type "method-wrapper") = true by decide, if_true]
  refine KFB.if_so (by decide) ?_
  refine wpAny_bind (check_bound_init FB.toExcCallFacts (k₃ _ _ (X₂ _ _ hC)) (k₃ _ _ hx₂) rfl ?_)
  refine wpAny_bind (wpAny_pure (wpAny_pure ?_))
  refine ⟨plainId_quiet FB.init.plain _, codeAny_builtin FB.initEntry ?_⟩
  refine exc_init_tree (cls := .ref C) (t0 := t0) (dv := none) (c2 := .none) (c3 := .none) (b4 := .bool false) (k₃ _ _ hx₂) (by rw [sizeLine_eq]; exact (by decide : 0 ≤ 16777216)) fun h₄ k₄ hx₄ _ => ?_
  have hxL : hp.objs.size ≠ x := Nat.ne_of_gt (Heap.lt_size hx)
  have X₄ : K.In h₄ := fun a o e => k₄ a o (fun z => by rw [z, hnx] at e; cases e) (k₃ a o (X₂ a o e))
  have kp₄ : ∀ b o, b ≠ x → hp.get? b = some o → h₄.get? b = some o := fun b o hb e => k₄ b o hb (k₃ b o (k₂ b o (hk₁ b o e)))
  have hns₄ : Heap.Ns h₄ hp.objs.size (fun y => ([("self", Value.ref x)] : List (Str × Value)).reverse.lookup y) := by
    obtain ⟨oL, es, ep, hL, r⟩ := hns₂.keeps k₃
    exact ⟨oL, es, ep, k₄ _ _ hxL hL, r⟩
  have hle : hp.objs.size ≤ h₄.objs.size := Nat.le_of_lt hns₄.lt
  show _root_.PySem.wpAt _ _ _ (execs _ _) _ _ _
  exact wpAt_of_wpAny (wpAny_execs_nil (hq h₄ _ none _ ⟨kp₄, hx₄, rfl⟩))
theorem made0 (T : ECls prog K mg nm C fI B newId initId bm) (G : EFn0 prog K C fI ) {rest : List Value} {kw : List (Str × Value)} (hbd : ∀ (x : Value) (qual : Str) (p0 : Pos) (body : List Stmt) (doc pm : Value) (an : Option Addr) (cd ct : Value) (cc : Addr), bindArgs (ksFn "__init__" qual (iA0 p0) body iS0 .none .none doc pm an cd ct cc) ⟨x :: rest, kw⟩ = pure ([(("self" : Str), x)] : List (Str × Value)))
    (hz : rest.length ≤ sizeLine) (X : K.In s.heap) (hlim : s.heap.NoLimit) (hroom : A.depth + 1 < recursionLimit)
    (hG : s.heap.Ns mainGlobals mg) (hB : ∃ mb, s.heap.Ns builtinsNs mb ∧ ∀ x : Str, x ≠ "__name__" → mb x = bootBuiltins x)
    (hq : ∀ h' tk e d, MadeN [] s.heap h' e C d → R (.ok (.ret (.ref e))) { s with heap := h', toks := tk }) :
    codeAny (model prog w) A (.call (.ref C) ⟨rest, kw⟩) R s := by
  obtain ⟨cnm, q, N, bs, sn, sub, ab, col, dd, k0, k1, k2, k3, k5, hC⟩ := T.cls
  obtain ⟨hp, g, dr, tk, os⟩ := s
  have k : ∀ b o, hp.get? b = some o → ((hp.push (kdv_tup rest)).push (excO C hp.objs.size)).get? b = some o := fun b o e => Heap.get?_push_of_some _ (Heap.get?_push_of_some _ e)
  have hget : ((hp.push (kdv_tup rest)).push (excO C hp.objs.size)).get? (hp.objs.size + 1) = some (excO C hp.objs.size) := by heap_get
  have hnx : K.lookup (hp.objs.size + 1) = none := by
    cases e : K.lookup (hp.objs.size + 1) with
    | none => rfl
    | some o =>
      have z : hp.get? (hp.objs.size + 1) = some o := X _ _ e
      exact absurd (Nat.lt_of_succ_lt (Heap.lt_size z)) (Nat.lt_irrefl _)
  refine call_kw T.base.F (X _ _ hC) (looks_findIn X T.iC) (fun self => bind_fn X self T.tC) hz ?_
  refine sup_init0 (s := ⟨(hp.push (kdv_tup rest)).push (excO C hp.objs.size), g, dr, tk, os⟩) T G (hbd _) (X.keeps k) (hlim.keeps k) hget hnx hroom (hG.keeps k) (let ⟨mb, b1, b2⟩ := hB; ⟨mb, b1.keeps k, b2⟩) fun h' tk' d t1 ⟨k', hx, hd⟩ => ?_
  have old : ∀ b o, hp.get? b = some o → h'.get? b = some o := fun b o e => k' b o (Nat.ne_of_lt (Nat.lt_succ_of_lt (Heap.lt_size e))) (k b o e)
  refine ⟨rfl, hq h' tk' (hp.objs.size + 1) d ⟨old, Nat.le_succ _, ⟨_, hx⟩, ?_⟩⟩
  cases d with
  | none => exact hd
  | some dx =>
    obtain ⟨dn, dne, hns⟩ := hd
    have z : hp.objs.size + 1 + 1 ≤ dx := by
      first
        | (simpa only [Heap.size_push] using dn)
        | exact dn
        | (have q := dn; rw [Heap.size_push, Heap.size_push] at q; exact q)
    exact ⟨Nat.le_trans (Nat.le_trans (Nat.le_succ _) (Nat.le_succ _)) z, dne, hns⟩
end
def iA1 (f1 : Str) (p0 p1 : Pos) : Arguments := { posonlyargs := [], args := [{ arg := "self", annotation := none, pos := p0 }, { arg := f1, annotation := none, pos := p1 }], vararg := none, kwonlyargs := [], kw_defaults := [], kwarg := none, defaults := [] }
def iB1 (f1 : Str) (q1 q2 q3 q5 q6 a1 b1 c1 d1 e1 : Pos) : List Stmt := [.Expr (.Call (.Attribute (.Call (.Name "super" q1) [] [] q2) "__init__" q3) [.Name f1 a1] [] q5) q6, .Assign [.Attribute (.Name "self" b1) f1 c1] (.Name f1 d1) e1]
def iS1 (f1 : Str) : Scope := { kind := .function, names := [(PySem.Str.ofString "self", .local), (f1, .local), (PySem.Str.ofString "__class__", .free), (PySem.Str.ofString "super", .globalImplicit)], isGenerator := false, isCoroutine := false, more := [] }
structure FOk1 (f1 : Str) : Prop where
  dbg1 : (f1 == ("__debug__" : Str)) = false
  lf1 : (iS1 f1).names.lookup f1 = some .local
  ns1 : (("self" : Str) == f1) = false
  lc : (iS1 f1).names.lookup ("__class__" : Str) = some .free
  ls : (iS1 f1).names.lookup ("super" : Str) = some .globalImplicit
  bp : ∀ (qual : Str) (p0 p1 : Pos) (body : List Stmt) (doc pm : Value) (an : Option Addr) (cd ct : Value) (cc : Addr) (x v1 : Value), bindArgs (ksFn "__init__" qual (iA1 f1 p0 p1) body (iS1 f1) .none .none doc pm an cd ct cc) ⟨[x, v1], []⟩ = pure ([(("self" : Str), x), (f1, v1)] : List (Str × Value))
  bk : ∀ (qual : Str) (p0 p1 : Pos) (body : List Stmt) (doc pm : Value) (an : Option Addr) (cd ct : Value) (cc : Addr) (x v1 : Value), bindArgs (ksFn "__init__" qual (iA1 f1 p0 p1) body (iS1 f1) .none .none doc pm an cd ct cc) ⟨[x], [(f1, v1)]⟩ = pure ([(("self" : Str), x), (f1, v1)] : List (Str × Value))
structure EFn1 (prog : Program) (K : Frag) (C fI : Addr) (f1 : Str) : Prop where
  fok : FOk1 f1
  no1 : findIn K (.ref C) f1 = some none
  fn : ∃ (qual : Str) (oc : Value) (od : Option Addr) (doc pm : Value) (an : Option Addr) (cda : Addr) (ct : Value) (cc : Addr) (osl : Array (Option Value)) (p0 p1 q1 q2 q3 q5 q6 a1 b1 c1 d1 e1 : Pos),
    K.lookup fI = some ⟨oc, od, .func (ksFn "__init__" qual (iA1 f1 p0 p1) (iB1 f1 q1 q2 q3 q5 q6 a1 b1 c1 d1 e1) (iS1 f1) .none .none doc pm an (.ref cda) ct cc), osl⟩ ∧ codeIn K (.ref cda) qual = true ∧
    (∃ ccl cdd vs ccs file tf, K.lookup cda = some ⟨ccl, cdd, .fields vs, ccs⟩ ∧ vs[2]? = some (.str file tf) ∧ ((prog.main.file : Str) == file) = true) ∧
    (∃ cl cld csl, K.lookup cc = some ⟨cl, cld, .cell (some (.ref C)), csl⟩) ∧ (q3.endLine == q5.line) = true
section
variable {prog : Program} {w : World} {A : Around} {E : Value → Shared → Prop} {R : Result → Shared → Prop} {s : Shared} {K : Frag} {mg : Str → Option Value} {nm : Str} {C fI : Addr} {B newId initId : String} {bm : List Value}
theorem sup_init1 (T : ECls prog K mg nm C fI B newId initId bm) {f1 : Str} (G : EFn1 prog K C fI f1) {x t0 : Addr} {v1 : Value} {args : Args} (hbd : ∀ (qual : Str) (p0 p1 : Pos) (body : List Stmt) (doc pm : Value) (an : Option Addr) (cd ct : Value) (cc : Addr), bindArgs (ksFn "__init__" qual (iA1 f1 p0 p1) body (iS1 f1) .none .none doc pm an cd ct cc) args = pure ([(("self" : Str), Value.ref x), (f1, v1)] : List (Str × Value)))
    (X : K.In s.heap) (hlim : s.heap.NoLimit) (hx : s.heap.get? x = some (excO C t0)) (hnx : K.lookup x = none) (hroom : A.depth < recursionLimit)
    (hG : s.heap.Ns mainGlobals mg) (hB : ∃ mb, s.heap.Ns builtinsNs mb ∧ ∀ x : Str, x ≠ "__name__" → mb x = bootBuiltins x)
    (hq : ∀ h' tk d t1, InitN [(f1, v1)] s.heap h' x C t1 d → R (.ok (.ret .none)) { s with heap := h', toks := tk }) :
    codeAny (model prog w) A (.call (.ref fI) args) R s := by
  obtain ⟨qual, oc, od, doc, pm, an, cda, ct, cc, osl, p0, p1, q1, q2, q3, q5, q6, a1, b1, c1, d1, e1, hl, hcd, ⟨ccl, cdd, vs, ccs, file, tf, hcode, hvs, hfile⟩, ⟨cl, cld, csl, hcell⟩, hpos⟩ := G.fn
  obtain ⟨cnm, q, N, bs, sn, sub, ab, col, dd, k0, k1, k2, k3, k5, hC⟩ := T.cls
  obtain ⟨mb, hBn, hBv⟩ := hB
  have hcl : clsIn K C = some { name := cnm, bases := bs, mro := .ref C :: bm, ns := N, qualname := q, hasDict := true, slotNames := sn, subclasses := sub, abstract := ab, collection := col, hasDel := false } := by unfold clsIn; rw [hC] <;> rfl
  obtain ⟨hp, g, d, tk, os⟩ := s
  refine ks_codeAny_call_defAt (fd := ksFn "__init__" qual (iA1 f1 p0 p1) (iB1 f1 q1 q2 q3 q5 q6 a1 b1 c1 d1 e1) (iS1 f1) .none .none doc pm an (.ref cda) ct cc) (body := (iB1 f1 q1 q2 q3 q5 q6 a1 b1 c1 d1 e1)) (binds := [(("self" : Str), Value.ref x), (f1, v1)]) hroom (X _ _ hl) rfl hlim (codeRec_of X hcd) rfl (BindsTo.of_eq (hbd _ _ _ _ _ _ _ _ _ _)) ?hce ?hlo (fun h₁ hns hk₁ => ?_) rfl rfl rfl
  case hce => intro y hy; simp only [iS1, List.mem_cons, List.not_mem_nil, or_false] at hy; rcases hy with rfl | rfl | rfl | rfl <;> simp
  case hlo =>
    intro y hy
    simp only [List.mem_cons, List.not_mem_nil, or_false] at hy
    rcases hy with rfl | rfl
    · rfl
    · exact G.fok.lf1
  have X₁ : K.In h₁ := X.keeps hk₁
  have hx₁ := hk₁ _ _ hx
  have mv1 : (fun y => ([("self", Value.ref x), (f1, v1)] : List (Str × Value)).reverse.lookup y) f1 = some v1 := by simp [List.lookup]
  have mself : (fun y => ([("self", Value.ref x), (f1, v1)] : List (Str × Value)).reverse.lookup y) "self" = some (.ref x) := by simp [List.lookup, G.fok.ns1]
  have hns' : Heap.Ns h₁ hp.objs.size (fun y => ([("self", Value.ref x), (f1, v1)] : List (Str × Value)).reverse.lookup y) := hns
  have I₁ : InstAt h₁ x (excO C t0) C none := ⟨hx₁, rfl, rfl, trivial⟩
  show _root_.PySem.wpAt _ _ _ (execs (iB1 f1 q1 q2 q3 q5 q6 a1 b1 c1 d1 e1) (ksEnv qual (iS1 f1) hp.objs.size fI (.ref cda) cc)) _ _ _
  have hmc : ∀ ov, methodCall (.Call (.Name "super" q1) [] [] q2) "__init__" q3 q5 (ksEnv qual (iS1 f1) hp.objs.size fI (.ref cda) cc) ov 1 (backTo q5 (starEach [.Name f1 a1] (ksEnv qual (iS1 f1) hp.objs.size fI (.ref cda) cc))) [] = (do
      let (ff, first) ← holding [ov] (getMethod ov "__init__" (L2.plainOf (.Call (.Name "super" q1) [] [] q2) (ksEnv qual (iS1 f1) hp.objs.size fI (.ref cda) cc)))
      callWith q5 ff first (backTo q5 (starEach [.Name f1 a1] (ksEnv qual (iS1 f1) hp.objs.size fI (.ref cda) cc))) []) := fun ov => L2.mcall_line rfl hpos
  refine ks_wpAt_execs_cons (ks_wpAt_Expr_any (ks_wpAt_MethodCall (pl := L2.plainOf (.Call (.Name "super" q1) [] [] q2) (ksEnv qual (iS1 f1) hp.objs.size fI (.ref cda) cc)) ?_ ?he))
  case he =>
    show (do
      let ov ← attributeBase (.Call (.Name "super" q1) [] [] q2) "__init__" (ksEnv qual (iS1 f1) hp.objs.size fI (.ref cda) cc) (eval (.Call (.Name "super" q1) [] [] q2) (ksEnv qual (iS1 f1) hp.objs.size fI (.ref cda) cc))
      standAt q3.atName
      methodCall (.Call (.Name "super" q1) [] [] q2) "__init__" q3 q5 (ksEnv qual (iS1 f1) hp.objs.size fI (.ref cda) cc) ov 1 (backTo q5 (starEach [.Name f1 a1] (ksEnv qual (iS1 f1) hp.objs.size fI (.ref cda) cc))) []) = _
    simp only [hmc]
  refine ks_wpAt_super_base (env := ksEnv qual (iS1 f1) hp.objs.size fI (.ref cda) cc) (f := fI) (cc := cda) G.fok.ls G.fok.lc (by decide) rfl (X₁ _ _ hl) rfl rfl rfl (X₁ _ _ hcode) rfl hvs hfile T.top ?_
  refine ks_loadName_global rfl G.fok.ls (loadGlobal_builtin (env := ksEnv qual (iS1 f1) hp.objs.size fI (.ref cda) cc) (hG.keeps hk₁) T.noS (hBn.keeps hk₁) ((hBv _ (by decide +kernel)).trans (by first | rfl | decide +kernel | kernel_rfl)) ⟨rfl, ?_⟩)
  refine wpAny_loadName_free rfl G.fok.lc rfl ⟨_, X₁ _ _ hcell, rfl⟩ ?_
  refine wpAny_loadName_local rfl rfl hns' mself ?_
  refine ks_wpAny_isType_cls (X₁ _ _ hC) rfl ⟨rfl, ?_⟩
  refine ks_wpAny_call_super (X₁ _ _ hC) rfl hx₁ rfl (fun c e => by cases e) (looks_mroIn X₁ T.mC) (fun h₂ e₂ k₂ => ?_)
  have X₂ : K.In h₂ := X₁.keeps k₂
  have hx₂ := k₂ _ _ hx₁
  have I₂ : InstAt h₂ x (excO C t0) C none := ⟨hx₂, rfl, rfl, trivial⟩
  have hns₂ := hns'.keeps k₂
  have hal : alongIn K "__init__" (((Value.ref C :: bm).dropWhile (· != .ref C)).drop 1) = some (some (.builtin initId)) := by
    have z := T.su
    unfold ks_superIn at z
    rw [hcl] at z
    exact z
  refine kxs_getMethod T.base.KF (so := h₁.objs.size) (D := C) (x := x) (C := C) (l₀ := .ref C :: bm) (K := K) e₂ (looks_opaque X₂ T.tp) (fun A Q E s k q => wpAny_bind ((looks_clsIn X₂ hcl) A _ E s k (wpAny_pure q))) rfl X₂ hal (I₂.type.andThen (looks_subIn X₂ T.beC)) (ks_ne X₂ I₂ hcl) (by decide) ?_
  have k₃ : ∀ b o, h₂.get? b = some o → (h₂.push (kxs_mw initId x)).get? b = some o := fun b o e => Heap.get?_push_of_some _ e
  have hmw : (h₂.push (kxs_mw initId x)).get? h₂.objs.size = some (kxs_mw initId x) := Heap.get?_push_at rfl rfl
  refine kxs_callWith (i := initId) (x := x) rfl (evalArgs_plain ?_)
  refine spliced_cons (wpAny_Name (wpAny_loadName_local rfl G.fok.lf1 (hns₂.keeps k₃) mv1 ?_) G.fok.dbg1)
  refine spliced_nil ⟨hmw, ?_⟩
  have FB := T.base.F
  refine wpAny_call (codeAny_of_tree ?_)
  show wpAny _ _ (callAny (.ref h₂.objs.size) ⟨[v1], []⟩) _ _ _
  simp only [callAny]
  refine wpAny_bind (wpAny_load hmw ?_)
  simp only [kxs_mw, show (Value.type "method-wrapper" == Value.type "method" || Value.type "method-wrapper" == Value.type "builtin_function_or_method" || Value.type "method-wrapper" == Value.type "method-wrapper") = true by decide, if_true]
  refine KFB.if_so (by decide) ?_
  refine wpAny_bind (check_bound_init FB.toExcCallFacts (k₃ _ _ (X₂ _ _ hC)) (k₃ _ _ hx₂) rfl ?_)
  refine wpAny_bind (wpAny_pure (wpAny_pure ?_))
  refine ⟨plainId_quiet FB.init.plain _, codeAny_builtin FB.initEntry ?_⟩
  refine exc_init_tree (cls := .ref C) (t0 := t0) (dv := none) (c2 := .none) (c3 := .none) (b4 := .bool false) (k₃ _ _ hx₂) (by rw [sizeLine_eq]; exact (by decide : 1 ≤ 16777216)) fun h₄ k₄ hx₄ _ => ?_
  have hxL : hp.objs.size ≠ x := Nat.ne_of_gt (Heap.lt_size hx)
  have X₄ : K.In h₄ := fun a o e => k₄ a o (fun z => by rw [z, hnx] at e; cases e) (k₃ a o (X₂ a o e))
  have kp₄ : ∀ b o, b ≠ x → hp.get? b = some o → h₄.get? b = some o := fun b o hb e => k₄ b o hb (k₃ b o (k₂ b o (hk₁ b o e)))
  have hns₄ : Heap.Ns h₄ hp.objs.size (fun y => ([("self", Value.ref x), (f1, v1)] : List (Str × Value)).reverse.lookup y) := by
    obtain ⟨oL, es, ep, hL, r⟩ := hns₂.keeps k₃
    exact ⟨oL, es, ep, k₄ _ _ hxL hL, r⟩
  have hle : hp.objs.size ≤ h₄.objs.size := Nat.le_of_lt hns₄.lt
  show _root_.PySem.wpAt _ _ _ (execs _ _) _ _ _
  refine ks_wpAt_execs_cons (ks_wpAt_Assign_Attr (wpAt_of_wpAny ?_))
  refine wpAny_Name (wpAny_loadName_local rfl G.fok.lf1 hns₄ mv1 ?_) G.fok.dbg1
  refine wpAny_Name (wpAny_loadName_local rfl rfl hns₄ mself ?_) (by decide)
  refine set_plain X₄ (od := none) ⟨hx₄, rfl, rfl, trivial⟩ T.sa ?_
  refine osa_new X₄ hx₄ hcl (by rw [refuseLoop_ref]; exact T.base.pass _) rfl (by rw [List.contains_cons, T.base.ob, Bool.or_true]) rfl G.no1 (fun h₅ tk₅ dx k₅ dn dne hx₅ hn₅ => ?_)
  rw [lk1] at hn₅
  show _root_.PySem.wpAt _ _ _ (execs _ _) _ _ _
  exact wpAt_of_wpAny (wpAny_execs_nil (hq h₅ tk₅ (some dx) _ ⟨fun b o hb e => k₅ b o hb (kp₄ b o hb e), hx₅, Nat.le_trans hle dn, dne, hn₅⟩))
theorem made1 (T : ECls prog K mg nm C fI B newId initId bm) {f1 : Str} (G : EFn1 prog K C fI f1) {v1 : Value} {rest : List Value} {kw : List (Str × Value)} (hbd : ∀ (x : Value) (qual : Str) (p0 p1 : Pos) (body : List Stmt) (doc pm : Value) (an : Option Addr) (cd ct : Value) (cc : Addr), bindArgs (ksFn "__init__" qual (iA1 f1 p0 p1) body (iS1 f1) .none .none doc pm an cd ct cc) ⟨x :: rest, kw⟩ = pure ([(("self" : Str), x), (f1, v1)] : List (Str × Value)))
    (hz : rest.length ≤ sizeLine) (X : K.In s.heap) (hlim : s.heap.NoLimit) (hroom : A.depth + 1 < recursionLimit)
    (hG : s.heap.Ns mainGlobals mg) (hB : ∃ mb, s.heap.Ns builtinsNs mb ∧ ∀ x : Str, x ≠ "__name__" → mb x = bootBuiltins x)
    (hq : ∀ h' tk e d, MadeN [(f1, v1)] s.heap h' e C d → R (.ok (.ret (.ref e))) { s with heap := h', toks := tk }) :
    codeAny (model prog w) A (.call (.ref C) ⟨rest, kw⟩) R s := by
  obtain ⟨cnm, q, N, bs, sn, sub, ab, col, dd, k0, k1, k2, k3, k5, hC⟩ := T.cls
  obtain ⟨hp, g, dr, tk, os⟩ := s
  have k : ∀ b o, hp.get? b = some o → ((hp.push (kdv_tup rest)).push (excO C hp.objs.size)).get? b = some o := fun b o e => Heap.get?_push_of_some _ (Heap.get?_push_of_some _ e)
  have hget : ((hp.push (kdv_tup rest)).push (excO C hp.objs.size)).get? (hp.objs.size + 1) = some (excO C hp.objs.size) := by heap_get
  have hnx : K.lookup (hp.objs.size + 1) = none := by
    cases e : K.lookup (hp.objs.size + 1) with
    | none => rfl
    | some o =>
      have z : hp.get? (hp.objs.size + 1) = some o := X _ _ e
      exact absurd (Nat.lt_of_succ_lt (Heap.lt_size z)) (Nat.lt_irrefl _)
  refine call_kw T.base.F (X _ _ hC) (looks_findIn X T.iC) (fun self => bind_fn X self T.tC) hz ?_
  refine sup_init1 (s := ⟨(hp.push (kdv_tup rest)).push (excO C hp.objs.size), g, dr, tk, os⟩) T G (hbd _) (X.keeps k) (hlim.keeps k) hget hnx hroom (hG.keeps k) (let ⟨mb, b1, b2⟩ := hB; ⟨mb, b1.keeps k, b2⟩) fun h' tk' d t1 ⟨k', hx, hd⟩ => ?_
  have old : ∀ b o, hp.get? b = some o → h'.get? b = some o := fun b o e => k' b o (Nat.ne_of_lt (Nat.lt_succ_of_lt (Heap.lt_size e))) (k b o e)
  refine ⟨rfl, hq h' tk' (hp.objs.size + 1) d ⟨old, Nat.le_succ _, ⟨_, hx⟩, ?_⟩⟩
  cases d with
  | none => exact hd
  | some dx =>
    obtain ⟨dn, dne, hns⟩ := hd
    have z : hp.objs.size + 1 + 1 ≤ dx := by
      first
        | (simpa only [Heap.size_push] using dn)
        | exact dn
        | (have q := dn; rw [Heap.size_push, Heap.size_push] at q; exact q)
    exact ⟨Nat.le_trans (Nat.le_trans (Nat.le_succ _) (Nat.le_succ _)) z, dne, hns⟩
end
def iA2 (f1 f2 : Str) (p0 p1 p2 : Pos) : Arguments := { posonlyargs := [], args := [{ arg := "self", annotation := none, pos := p0 }, { arg := f1, annotation := none, pos := p1 }, { arg := f2, annotation := none, pos := p2 }], vararg := none, kwonlyargs := [], kw_defaults := [], kwarg := none, defaults := [] }
def iB2 (f1 f2 : Str) (q1 q2 q3 q5 q6 a1 a2 b1 c1 d1 e1 b2 c2 d2 e2 : Pos) : List Stmt := [.Expr (.Call (.Attribute (.Call (.Name "super" q1) [] [] q2) "__init__" q3) [.Name f1 a1, .Name f2 a2] [] q5) q6, .Assign [.Attribute (.Name "self" b1) f1 c1] (.Name f1 d1) e1, .Assign [.Attribute (.Name "self" b2) f2 c2] (.Name f2 d2) e2]
def iS2 (f1 f2 : Str) : Scope := { kind := .function, names := [(PySem.Str.ofString "self", .local), (f1, .local), (f2, .local), (PySem.Str.ofString "__class__", .free), (PySem.Str.ofString "super", .globalImplicit)], isGenerator := false, isCoroutine := false, more := [] }
structure FOk2 (f1 f2 : Str) : Prop where
  dbg1 : (f1 == ("__debug__" : Str)) = false
  lf1 : (iS2 f1 f2).names.lookup f1 = some .local
  ns1 : (("self" : Str) == f1) = false
  dbg2 : (f2 == ("__debug__" : Str)) = false
  lf2 : (iS2 f1 f2).names.lookup f2 = some .local
  ns2 : (("self" : Str) == f2) = false
  ne : (f1 == f2) = false
  lc : (iS2 f1 f2).names.lookup ("__class__" : Str) = some .free
  ls : (iS2 f1 f2).names.lookup ("super" : Str) = some .globalImplicit
  bp : ∀ (qual : Str) (p0 p1 p2 : Pos) (body : List Stmt) (doc pm : Value) (an : Option Addr) (cd ct : Value) (cc : Addr) (x v1 v2 : Value), bindArgs (ksFn "__init__" qual (iA2 f1 f2 p0 p1 p2) body (iS2 f1 f2) .none .none doc pm an cd ct cc) ⟨[x, v1, v2], []⟩ = pure ([(("self" : Str), x), (f1, v1), (f2, v2)] : List (Str × Value))
  bk : ∀ (qual : Str) (p0 p1 p2 : Pos) (body : List Stmt) (doc pm : Value) (an : Option Addr) (cd ct : Value) (cc : Addr) (x v1 v2 : Value), bindArgs (ksFn "__init__" qual (iA2 f1 f2 p0 p1 p2) body (iS2 f1 f2) .none .none doc pm an cd ct cc) ⟨[x], [(f2, v2), (f1, v1)]⟩ = pure ([(("self" : Str), x), (f1, v1), (f2, v2)] : List (Str × Value))
structure EFn2 (prog : Program) (K : Frag) (C fI : Addr) (f1 f2 : Str) : Prop where
  fok : FOk2 f1 f2
  no1 : findIn K (.ref C) f1 = some none
  no2 : findIn K (.ref C) f2 = some none
  fn : ∃ (qual : Str) (oc : Value) (od : Option Addr) (doc pm : Value) (an : Option Addr) (cda : Addr) (ct : Value) (cc : Addr) (osl : Array (Option Value)) (p0 p1 p2 q1 q2 q3 q5 q6 a1 a2 b1 c1 d1 e1 b2 c2 d2 e2 : Pos),
    K.lookup fI = some ⟨oc, od, .func (ksFn "__init__" qual (iA2 f1 f2 p0 p1 p2) (iB2 f1 f2 q1 q2 q3 q5 q6 a1 a2 b1 c1 d1 e1 b2 c2 d2 e2) (iS2 f1 f2) .none .none doc pm an (.ref cda) ct cc), osl⟩ ∧ codeIn K (.ref cda) qual = true ∧
    (∃ ccl cdd vs ccs file tf, K.lookup cda = some ⟨ccl, cdd, .fields vs, ccs⟩ ∧ vs[2]? = some (.str file tf) ∧ ((prog.main.file : Str) == file) = true) ∧
    (∃ cl cld csl, K.lookup cc = some ⟨cl, cld, .cell (some (.ref C)), csl⟩) ∧ (q3.endLine == q5.line) = true
section
variable {prog : Program} {w : World} {A : Around} {E : Value → Shared → Prop} {R : Result → Shared → Prop} {s : Shared} {K : Frag} {mg : Str → Option Value} {nm : Str} {C fI : Addr} {B newId initId : String} {bm : List Value}
theorem sup_init2 (T : ECls prog K mg nm C fI B newId initId bm) {f1 f2 : Str} (G : EFn2 prog K C fI f1 f2) {x t0 : Addr} {v1 v2 : Value} {args : Args} (hbd : ∀ (qual : Str) (p0 p1 p2 : Pos) (body : List Stmt) (doc pm : Value) (an : Option Addr) (cd ct : Value) (cc : Addr), bindArgs (ksFn "__init__" qual (iA2 f1 f2 p0 p1 p2) body (iS2 f1 f2) .none .none doc pm an cd ct cc) args = pure ([(("self" : Str), Value.ref x), (f1, v1), (f2, v2)] : List (Str × Value)))
    (X : K.In s.heap) (hlim : s.heap.NoLimit) (hx : s.heap.get? x = some (excO C t0)) (hnx : K.lookup x = none) (hroom : A.depth < recursionLimit)
    (hG : s.heap.Ns mainGlobals mg) (hB : ∃ mb, s.heap.Ns builtinsNs mb ∧ ∀ x : Str, x ≠ "__name__" → mb x = bootBuiltins x)
    (hq : ∀ h' tk d t1, InitN [(f2, v2), (f1, v1)] s.heap h' x C t1 d → R (.ok (.ret .none)) { s with heap := h', toks := tk }) :
    codeAny (model prog w) A (.call (.ref fI) args) R s := by
  obtain ⟨qual, oc, od, doc, pm, an, cda, ct, cc, osl, p0, p1, p2, q1, q2, q3, q5, q6, a1, a2, b1, c1, d1, e1, b2, c2, d2, e2, hl, hcd, ⟨ccl, cdd, vs, ccs, file, tf, hcode, hvs, hfile⟩, ⟨cl, cld, csl, hcell⟩, hpos⟩ := G.fn
  obtain ⟨cnm, q, N, bs, sn, sub, ab, col, dd, k0, k1, k2, k3, k5, hC⟩ := T.cls
  obtain ⟨mb, hBn, hBv⟩ := hB
  have hcl : clsIn K C = some { name := cnm, bases := bs, mro := .ref C :: bm, ns := N, qualname := q, hasDict := true, slotNames := sn, subclasses := sub, abstract := ab, collection := col, hasDel := false } := by unfold clsIn; rw [hC] <;> rfl
  obtain ⟨hp, g, d, tk, os⟩ := s
  refine ks_codeAny_call_defAt (fd := ksFn "__init__" qual (iA2 f1 f2 p0 p1 p2) (iB2 f1 f2 q1 q2 q3 q5 q6 a1 a2 b1 c1 d1 e1 b2 c2 d2 e2) (iS2 f1 f2) .none .none doc pm an (.ref cda) ct cc) (body := (iB2 f1 f2 q1 q2 q3 q5 q6 a1 a2 b1 c1 d1 e1 b2 c2 d2 e2)) (binds := [(("self" : Str), Value.ref x), (f1, v1), (f2, v2)]) hroom (X _ _ hl) rfl hlim (codeRec_of X hcd) rfl (BindsTo.of_eq (hbd _ _ _ _ _ _ _ _ _ _ _)) ?hce ?hlo (fun h₁ hns hk₁ => ?_) rfl rfl rfl
  case hce => intro y hy; simp only [iS2, List.mem_cons, List.not_mem_nil, or_false] at hy; rcases hy with rfl | rfl | rfl | rfl | rfl <;> simp
  case hlo =>
    intro y hy
    simp only [List.mem_cons, List.not_mem_nil, or_false] at hy
    rcases hy with rfl | rfl | rfl
    · rfl
    · exact G.fok.lf1
    · exact G.fok.lf2
  have X₁ : K.In h₁ := X.keeps hk₁
  have hx₁ := hk₁ _ _ hx
  have mv2 : (fun y => ([("self", Value.ref x), (f1, v1), (f2, v2)] : List (Str × Value)).reverse.lookup y) f2 = some v2 := by simp [List.lookup]
  have mv1 : (fun y => ([("self", Value.ref x), (f1, v1), (f2, v2)] : List (Str × Value)).reverse.lookup y) f1 = some v1 := by simp [List.lookup, G.fok.ne]
  have mself : (fun y => ([("self", Value.ref x), (f1, v1), (f2, v2)] : List (Str × Value)).reverse.lookup y) "self" = some (.ref x) := by simp [List.lookup, G.fok.ns1, G.fok.ns2]
  have hns' : Heap.Ns h₁ hp.objs.size (fun y => ([("self", Value.ref x), (f1, v1), (f2, v2)] : List (Str × Value)).reverse.lookup y) := hns
  have I₁ : InstAt h₁ x (excO C t0) C none := ⟨hx₁, rfl, rfl, trivial⟩
  show _root_.PySem.wpAt _ _ _ (execs (iB2 f1 f2 q1 q2 q3 q5 q6 a1 a2 b1 c1 d1 e1 b2 c2 d2 e2) (ksEnv qual (iS2 f1 f2) hp.objs.size fI (.ref cda) cc)) _ _ _
  have hmc : ∀ ov, methodCall (.Call (.Name "super" q1) [] [] q2) "__init__" q3 q5 (ksEnv qual (iS2 f1 f2) hp.objs.size fI (.ref cda) cc) ov 2 (backTo q5 (starEach [.Name f1 a1, .Name f2 a2] (ksEnv qual (iS2 f1 f2) hp.objs.size fI (.ref cda) cc))) [] = (do
      let (ff, first) ← holding [ov] (getMethod ov "__init__" (L2.plainOf (.Call (.Name "super" q1) [] [] q2) (ksEnv qual (iS2 f1 f2) hp.objs.size fI (.ref cda) cc)))
      callWith q5 ff first (backTo q5 (starEach [.Name f1 a1, .Name f2 a2] (ksEnv qual (iS2 f1 f2) hp.objs.size fI (.ref cda) cc))) []) := fun ov => L2.mcall_line rfl hpos
  refine ks_wpAt_execs_cons (ks_wpAt_Expr_any (ks_wpAt_MethodCall (pl := L2.plainOf (.Call (.Name "super" q1) [] [] q2) (ksEnv qual (iS2 f1 f2) hp.objs.size fI (.ref cda) cc)) ?_ ?he))
  case he =>
    show (do
      let ov ← attributeBase (.Call (.Name "super" q1) [] [] q2) "__init__" (ksEnv qual (iS2 f1 f2) hp.objs.size fI (.ref cda) cc) (eval (.Call (.Name "super" q1) [] [] q2) (ksEnv qual (iS2 f1 f2) hp.objs.size fI (.ref cda) cc))
      standAt q3.atName
      methodCall (.Call (.Name "super" q1) [] [] q2) "__init__" q3 q5 (ksEnv qual (iS2 f1 f2) hp.objs.size fI (.ref cda) cc) ov 2 (backTo q5 (starEach [.Name f1 a1, .Name f2 a2] (ksEnv qual (iS2 f1 f2) hp.objs.size fI (.ref cda) cc))) []) = _
    simp only [hmc]
  refine ks_wpAt_super_base (env := ksEnv qual (iS2 f1 f2) hp.objs.size fI (.ref cda) cc) (f := fI) (cc := cda) G.fok.ls G.fok.lc (by decide) rfl (X₁ _ _ hl) rfl rfl rfl (X₁ _ _ hcode) rfl hvs hfile T.top ?_
  refine ks_loadName_global rfl G.fok.ls (loadGlobal_builtin (env := ksEnv qual (iS2 f1 f2) hp.objs.size fI (.ref cda) cc) (hG.keeps hk₁) T.noS (hBn.keeps hk₁) ((hBv _ (by decide +kernel)).trans (by first | rfl | decide +kernel | kernel_rfl)) ⟨rfl, ?_⟩)
  refine wpAny_loadName_free rfl G.fok.lc rfl ⟨_, X₁ _ _ hcell, rfl⟩ ?_
  refine wpAny_loadName_local rfl rfl hns' mself ?_
  refine ks_wpAny_isType_cls (X₁ _ _ hC) rfl ⟨rfl, ?_⟩
  refine ks_wpAny_call_super (X₁ _ _ hC) rfl hx₁ rfl (fun c e => by cases e) (looks_mroIn X₁ T.mC) (fun h₂ e₂ k₂ => ?_)
  have X₂ : K.In h₂ := X₁.keeps k₂
  have hx₂ := k₂ _ _ hx₁
  have I₂ : InstAt h₂ x (excO C t0) C none := ⟨hx₂, rfl, rfl, trivial⟩
  have hns₂ := hns'.keeps k₂
  have hal : alongIn K "__init__" (((Value.ref C :: bm).dropWhile (· != .ref C)).drop 1) = some (some (.builtin initId)) := by
    have z := T.su
    unfold ks_superIn at z
    rw [hcl] at z
    exact z
  refine kxs_getMethod T.base.KF (so := h₁.objs.size) (D := C) (x := x) (C := C) (l₀ := .ref C :: bm) (K := K) e₂ (looks_opaque X₂ T.tp) (fun A Q E s k q => wpAny_bind ((looks_clsIn X₂ hcl) A _ E s k (wpAny_pure q))) rfl X₂ hal (I₂.type.andThen (looks_subIn X₂ T.beC)) (ks_ne X₂ I₂ hcl) (by decide) ?_
  have k₃ : ∀ b o, h₂.get? b = some o → (h₂.push (kxs_mw initId x)).get? b = some o := fun b o e => Heap.get?_push_of_some _ e
  have hmw : (h₂.push (kxs_mw initId x)).get? h₂.objs.size = some (kxs_mw initId x) := Heap.get?_push_at rfl rfl
  refine kxs_callWith (i := initId) (x := x) rfl (evalArgs_plain ?_)
  refine spliced_cons (wpAny_Name (wpAny_loadName_local rfl G.fok.lf1 (hns₂.keeps k₃) mv1 ?_) G.fok.dbg1)
  refine spliced_cons (wpAny_Name (wpAny_loadName_local rfl G.fok.lf2 (hns₂.keeps k₃) mv2 ?_) G.fok.dbg2)
  refine spliced_nil ⟨hmw, ?_⟩
  have FB := T.base.F
  refine wpAny_call (codeAny_of_tree ?_)
  show wpAny _ _ (callAny (.ref h₂.objs.size) ⟨[v1, v2], []⟩) _ _ _
  simp only [callAny]
  refine wpAny_bind (wpAny_load hmw ?_)
  simp only [kxs_mw, show (Value.type "method-wrapper" == Value.type "method" || Value.type "method-wrapper" == Value.type "builtin_function_or_method" || Value.type "method-wrapper" == Value.type "method-wrapper") = true by decide, if_true]
  refine KFB.if_so (by decide) ?_
  refine wpAny_bind (check_bound_init FB.toExcCallFacts (k₃ _ _ (X₂ _ _ hC)) (k₃ _ _ hx₂) rfl ?_)
  refine wpAny_bind (wpAny_pure (wpAny_pure ?_))
  refine ⟨plainId_quiet FB.init.plain _, codeAny_builtin FB.initEntry ?_⟩
  refine exc_init_tree (cls := .ref C) (t0 := t0) (dv := none) (c2 := .none) (c3 := .none) (b4 := .bool false) (k₃ _ _ hx₂) (by rw [sizeLine_eq]; exact (by decide : 2 ≤ 16777216)) fun h₄ k₄ hx₄ _ => ?_
  have hxL : hp.objs.size ≠ x := Nat.ne_of_gt (Heap.lt_size hx)
  have X₄ : K.In h₄ := fun a o e => k₄ a o (fun z => by rw [z, hnx] at e; cases e) (k₃ a o (X₂ a o e))
  have kp₄ : ∀ b o, b ≠ x → hp.get? b = some o → h₄.get? b = some o := fun b o hb e => k₄ b o hb (k₃ b o (k₂ b o (hk₁ b o e)))
  have hns₄ : Heap.Ns h₄ hp.objs.size (fun y => ([("self", Value.ref x), (f1, v1), (f2, v2)] : List (Str × Value)).reverse.lookup y) := by
    obtain ⟨oL, es, ep, hL, r⟩ := hns₂.keeps k₃
    exact ⟨oL, es, ep, k₄ _ _ hxL hL, r⟩
  have hle : hp.objs.size ≤ h₄.objs.size := Nat.le_of_lt hns₄.lt
  show _root_.PySem.wpAt _ _ _ (execs _ _) _ _ _
  refine ks_wpAt_execs_cons (ks_wpAt_Assign_Attr (wpAt_of_wpAny ?_))
  refine wpAny_Name (wpAny_loadName_local rfl G.fok.lf1 hns₄ mv1 ?_) G.fok.dbg1
  refine wpAny_Name (wpAny_loadName_local rfl rfl hns₄ mself ?_) (by decide)
  refine set_plain X₄ (od := none) ⟨hx₄, rfl, rfl, trivial⟩ T.sa ?_
  refine osa_new X₄ hx₄ hcl (by rw [refuseLoop_ref]; exact T.base.pass _) rfl (by rw [List.contains_cons, T.base.ob, Bool.or_true]) rfl G.no1 (fun h₅ tk₅ dx k₅ dn dne hx₅ hn₅ => ?_)
  rw [lk1] at hn₅
  show _root_.PySem.wpAt _ _ _ (execs _ _) _ _ _
  have dL : hp.objs.size ≠ dx := Nat.ne_of_lt (Nat.lt_of_lt_of_le hns₄.lt dn)
  have X₅ : K.In h₅ := fun a o e => k₅ a o (fun z => by rw [z, hnx] at e; cases e) (X₄ a o e)
  have hns₅ : Heap.Ns h₅ hp.objs.size (fun y => ([("self", Value.ref x), (f1, v1), (f2, v2)] : List (Str × Value)).reverse.lookup y) := by
    obtain ⟨oL, es, ep, hL, r⟩ := hns₄
    exact ⟨oL, es, ep, k₅ _ _ hxL hL, r⟩
  refine ks_wpAt_execs_cons (ks_wpAt_Assign_Attr (wpAt_of_wpAny ?_))
  refine wpAny_Name (wpAny_loadName_local rfl G.fok.lf2 hns₅ mv2 ?_) G.fok.dbg2
  refine wpAny_Name (wpAny_loadName_local rfl rfl hns₅ mself ?_) (by decide)
  have hw5 : Within (fun y => List.lookup y [(f1, v1)]) [f1] := by
    rw [← lk1]
    exact Within.cons f1 v1 Within.nil
  obtain ⟨oD, _, _, hoD, _, _⟩ := hn₅.count hw5
  refine set_plain X₅ (od := some oD) ⟨hx₅, rfl, rfl, hoD⟩ T.sa ?_
  refine osa_oldB X₅ hx₅ hn₅ hw5 (by show 1 ≤ 1000; decide) hcl (by rw [refuseLoop_ref]; exact T.base.pass _) rfl (by rw [List.contains_cons, T.base.ob, Bool.or_true]) rfl G.no2 (fun h₆ tk₆ k₆ hn₆ => ?_)
  rw [lk2] at hn₆
  show _root_.PySem.wpAt _ _ _ (execs _ _) _ _ _
  exact wpAt_of_wpAny (wpAny_execs_nil (hq h₆ tk₆ (some dx) _ ⟨fun b o hb e => k₆ b o (fun z => Nat.lt_irrefl _ (Nat.lt_of_lt_of_le (z ▸ Heap.lt_size e) (Nat.le_trans hle dn))) (k₅ b o hb (kp₄ b o hb e)), k₆ _ _ (Ne.symm dne) hx₅, Nat.le_trans hle dn, dne, hn₆⟩))
theorem made2 (T : ECls prog K mg nm C fI B newId initId bm) {f1 f2 : Str} (G : EFn2 prog K C fI f1 f2) {v1 v2 : Value} {rest : List Value} {kw : List (Str × Value)} (hbd : ∀ (x : Value) (qual : Str) (p0 p1 p2 : Pos) (body : List Stmt) (doc pm : Value) (an : Option Addr) (cd ct : Value) (cc : Addr), bindArgs (ksFn "__init__" qual (iA2 f1 f2 p0 p1 p2) body (iS2 f1 f2) .none .none doc pm an cd ct cc) ⟨x :: rest, kw⟩ = pure ([(("self" : Str), x), (f1, v1), (f2, v2)] : List (Str × Value)))
    (hz : rest.length ≤ sizeLine) (X : K.In s.heap) (hlim : s.heap.NoLimit) (hroom : A.depth + 1 < recursionLimit)
    (hG : s.heap.Ns mainGlobals mg) (hB : ∃ mb, s.heap.Ns builtinsNs mb ∧ ∀ x : Str, x ≠ "__name__" → mb x = bootBuiltins x)
    (hq : ∀ h' tk e d, MadeN [(f2, v2), (f1, v1)] s.heap h' e C d → R (.ok (.ret (.ref e))) { s with heap := h', toks := tk }) :
    codeAny (model prog w) A (.call (.ref C) ⟨rest, kw⟩) R s := by
  obtain ⟨cnm, q, N, bs, sn, sub, ab, col, dd, k0, k1, k2, k3, k5, hC⟩ := T.cls
  obtain ⟨hp, g, dr, tk, os⟩ := s
  have k : ∀ b o, hp.get? b = some o → ((hp.push (kdv_tup rest)).push (excO C hp.objs.size)).get? b = some o := fun b o e => Heap.get?_push_of_some _ (Heap.get?_push_of_some _ e)
  have hget : ((hp.push (kdv_tup rest)).push (excO C hp.objs.size)).get? (hp.objs.size + 1) = some (excO C hp.objs.size) := by heap_get
  have hnx : K.lookup (hp.objs.size + 1) = none := by
    cases e : K.lookup (hp.objs.size + 1) with
    | none => rfl
    | some o =>
      have z : hp.get? (hp.objs.size + 1) = some o := X _ _ e
      exact absurd (Nat.lt_of_succ_lt (Heap.lt_size z)) (Nat.lt_irrefl _)
  refine call_kw T.base.F (X _ _ hC) (looks_findIn X T.iC) (fun self => bind_fn X self T.tC) hz ?_
  refine sup_init2 (s := ⟨(hp.push (kdv_tup rest)).push (excO C hp.objs.size), g, dr, tk, os⟩) T G (hbd _) (X.keeps k) (hlim.keeps k) hget hnx hroom (hG.keeps k) (let ⟨mb, b1, b2⟩ := hB; ⟨mb, b1.keeps k, b2⟩) fun h' tk' d t1 ⟨k', hx, hd⟩ => ?_
  have old : ∀ b o, hp.get? b = some o → h'.get? b = some o := fun b o e => k' b o (Nat.ne_of_lt (Nat.lt_succ_of_lt (Heap.lt_size e))) (k b o e)
  refine ⟨rfl, hq h' tk' (hp.objs.size + 1) d ⟨old, Nat.le_succ _, ⟨_, hx⟩, ?_⟩⟩
  cases d with
  | none => exact hd
  | some dx =>
    obtain ⟨dn, dne, hns⟩ := hd
    have z : hp.objs.size + 1 + 1 ≤ dx := by
      first
        | (simpa only [Heap.size_push] using dn)
        | exact dn
        | (have q := dn; rw [Heap.size_push, Heap.size_push] at q; exact q)
    exact ⟨Nat.le_trans (Nat.le_trans (Nat.le_succ _) (Nat.le_succ _)) z, dne, hns⟩
end
end MEX
end PySem
namespace L2
open PySem PySem.Spec PyProof.Rows
/-- v is an error of the class at C with the fields fs -/
def IsErr (H : Hp) (v : V) (C : Addr) (fs : List (Str × V)) : Prop := ∃ e, v = .ref e ∧ ((fs = [] ∧ H e = some (exo e C none)) ∨ ∃ dx, H e = some (exo e C (some dx)) ∧ H dx = some (exd dx fs))
theorem IsErr.up {H H' : Hp} {v : V} {C : Addr} {fs : List (Str × V)} (s : Same H H') (h : IsErr H v C fs) : IsErr H' v C fs := by
  obtain ⟨e, ev, h⟩ := h
  refine ⟨e, ev, ?_⟩
  rcases h with ⟨h1, h2⟩ | ⟨dx, h1, h2⟩
  · exact .inl ⟨h1, s _ _ h2⟩
  · exact .inr ⟨dx, s _ _ h1, s _ _ h2⟩
/-- the values of the fields -/
inductive RelF : List (Str × V) → List (Str × Value) → Prop where
  | nil : RelF [] []
  | cons {f : Str} {v : V} {u : Value} {fs : List (Str × V)} {us : List (Str × Value)} : RelV v u → RelF fs us → RelF ((f, v) :: fs) ((f, u) :: us)
theorem RelF.look {fs : List (Str × V)} {us : List (Str × Value)} (r : RelF fs us) (y : Str) : RelO (fs.lookup y) (us.lookup y) := by
  induction r with
  | nil => trivial
  | @cons f v u fs us rv r ih =>
    by_cases h : y = f
    · subst h
      simpa [List.lookup] using (show RelO (some v) (some u) from rv)
    · have q : (y == f) = false := by simpa using h
      simpa [List.lookup, q] using ih
section
variable {X : Cx} {C : Addr}
/-- the class at C, called by args, makes an error -/
def Makes (X : Cx) (C : Addr) (n : Nat) (ag : List Value → Args) (gv : List V → List (Str × V)) : Prop :=
  ∀ (pins : List (Addr × Obj)) (σ : St) (H : Hp) (s : Shared) (Q : VK) (us : List Value) (vs : List V), Inv X pins σ H s → Vals vs us → vs.length = n → (∀ v H2, Same H H2 → IsErr H2 v C (gv vs) → Q v H2) →
    wpAny (model X.prog X.w) X.A (call (.ref C) (ag us).pos (ag us).kw) (EP X pins σ Q) X.xe s
theorem makes_of {n : Nat} {ag : List Value → Args} {gv : List V → List (Str × V)}
    (h : ∀ (s : Shared) (us : List Value) (vs : List V) (R : Result → Shared → Prop), X.K.In s.heap → s.heap.NoLimit → s.heap.Ns mainGlobals X.mg → (∃ mb, s.heap.Ns builtinsNs mb ∧ ∀ x : Str, x ≠ "__name__" → mb x = bootBuiltins x) → Vals vs us → vs.length = n →
      ∃ fu, RelF (gv vs) fu ∧ ((∀ h' tk e d, PySem.MEX.MadeN fu s.heap h' e C d → R (.ok (.ret (.ref e))) { s with heap := h', toks := tk }) → codeAny (model X.prog X.w) X.A (.call (.ref C) (ag us)) R s)) : Makes X C n ag gv := by
  intro pins σ H s Q us vs I r hl hq
  have hlim := I.nolimit
  have hG : s.heap.Ns mainGlobals X.mg := I.ok.mod.glob.keeps I.bk
  have hB : ∃ mb, s.heap.Ns builtinsNs mb ∧ ∀ x : Str, x ≠ "__name__" → mb x = bootBuiltins x := let ⟨mb, b1, b2⟩ := I.ok.mod.blt; ⟨mb, b1.keeps I.bk, b2⟩
  refine wpAny_call ?_
  obtain ⟨fu, rf, hc⟩ := h s us vs (fun r s' => match r with
    | .ok (.ret v) => EP X pins σ Q v s'
    | .ok _ => False
    | .error e => X.xe e s') I.kIn hlim hG hB r hl
  refine codeAny_mono (hc fun h' tk e d M => ?_) fun r s' z => ?_
  · show EP X pins σ Q (.ref e) { s with heap := h', toks := tk }
    obtain ⟨t1, ho⟩ := M.obj
    have He : H e = none := I.hok.fresh M.new
    have hpe : s.heap.get? e = none := by
      cases z : s.heap.get? e with
      | none => rfl
      | some o => exact absurd (Heap.lt_size z) (Nat.not_lt.mpr M.new)
    have hd := M.dict
    cases d with
    | none =>
      have hd' : fu = [] := hd
      subst hd'
      have eg : gv vs = [] := by
        revert rf
        generalize gv vs = z
        intro rf
        cases rf
        rfl
      have J := I.laidN (h' := h') (a := e) (o := exo e C none) (t' := tk) M.keep hpe He (exo_ok ho)
      refine ⟨.ref e, _, J, rfl, hq _ _ (fun b o q => ?_) ⟨e, rfl, .inl ⟨eg, upd_same⟩⟩⟩
      rw [upd_ne (ne_of_none q He)]
      exact q
    | some dx =>
      obtain ⟨dn, dne, hns⟩ := hd
      have Hd : H dx = none := I.hok.fresh dn
      obtain ⟨G', g1, g2⟩ := restrict h' fun b => decide (b ≠ e)
      have gk : ∀ b, b ≠ e → G'.get? b = h'.get? b := fun b hb => g1 b (decide_eq_true hb)
      have ge : G'.get? e = none := g2 e (by simp)
      have old : ∀ b o, s.heap.get? b = some o → G'.get? b = some o := fun b o q => (gk b (Nat.ne_of_lt (Nat.lt_of_lt_of_le (Heap.lt_size q) M.new))).trans (M.keep b o q)
      have nsG : G'.Ns1 dx (fun y => fu.lookup y) := hns.at (fun o q => (gk dx dne).trans q)
      have J := I.laid (t' := tk) (h' := G') (a := dx) (o := exd dx (gv vs)) old dn (exd_ok nsG rf.look)
      have He2 : upd H dx (exd dx (gv vs)) e = none := by
        rw [upd_ne (Ne.symm dne)]
        exact He
      have J2 := J.laidN (h' := h') (a := e) (o := exo e C (some dx)) (t' := tk) (fun b o q => by
        by_cases hb : b = e
        · have q' : G'.get? b = some o := q
          rw [hb, ge] at q'
          cases q'
        · exact (gk b hb).symm.trans q) ge He2 (exo_ok ho)
      refine ⟨.ref e, _, J2, rfl, hq _ _ (fun b o q => ?_) ⟨e, rfl, .inr ⟨dx, upd_same, ?_⟩⟩⟩
      · rw [upd_ne (ne_of_none q He), upd_ne (ne_of_none q Hd)]
        exact q
      · rw [upd_ne dne]
        exact upd_same
  · rcases r with e | (v | _ | _ | _) <;> exact z
section
variable {nm : Str} {fI : Addr} {B newId initId : String} {bm : List Value} {k : Nat}
theorem makes0 (T : PySem.MEX.ECls X.prog X.K X.mg nm C fI B newId initId bm) (G : PySem.MEX.EFn0 X.prog X.K C fI) (hr : Room k X.A) : Makes X C 0 (fun us => ⟨us, []⟩) (fun _ => []) := by
  refine makes_of fun s us vs R hK hl hG hB r hn => ⟨[], .nil, fun hq => ?_⟩
  cases vs with
  | cons _ _ => cases hn
  | nil =>
    cases r
    exact PySem.MEX.made0 T G (fun x => fun qual p0 body doc pm an cd ct cc => G.fok.bp qual p0 body doc pm an cd ct cc x) (Nat.zero_le _) hK hl (by have := hr.dp; omega) hG hB hq
theorem makes1 {f1 : Str} (T : PySem.MEX.ECls X.prog X.K X.mg nm C fI B newId initId bm) (G : PySem.MEX.EFn1 X.prog X.K C fI f1) (hr : Room k X.A) : Makes X C 1 (fun us => ⟨us, []⟩) (fun vs => [(f1, vs.getD 0 .non)]) := by
  refine makes_of fun s us vs R hK hl hG hB r hn => ?_
  match vs, hn with
  | [v], _ =>
    cases r with
    | cons rv rn =>
      cases rn
      rename_i u
      exact ⟨[(f1, u)], .cons rv .nil, fun hq => PySem.MEX.made1 T G (v1 := u) (fun x => fun qual p0 p1 body doc pm an cd ct cc => G.fok.bp qual p0 p1 body doc pm an cd ct cc x u) (by show 1 ≤ sizeLine; decide) hK hl (by have := hr.dp; omega) hG hB hq⟩
theorem makes1k {f1 : Str} (T : PySem.MEX.ECls X.prog X.K X.mg nm C fI B newId initId bm) (G : PySem.MEX.EFn1 X.prog X.K C fI f1) (hr : Room k X.A) : Makes X C 1 (fun us => ⟨[], [f1].zip us⟩) (fun vs => [(f1, vs.getD 0 .non)]) := by
  refine makes_of fun s us vs R hK hl hG hB r hn => ?_
  match vs, hn with
  | [v], _ =>
    cases r with
    | cons rv rn =>
      cases rn
      rename_i u
      exact ⟨[(f1, u)], .cons rv .nil, fun hq => PySem.MEX.made1 T G (v1 := u) (fun x => fun qual p0 p1 body doc pm an cd ct cc => G.fok.bk qual p0 p1 body doc pm an cd ct cc x u) (Nat.zero_le _) hK hl (by have := hr.dp; omega) hG hB hq⟩
theorem makes2 {f1 f2 : Str} (T : PySem.MEX.ECls X.prog X.K X.mg nm C fI B newId initId bm) (G : PySem.MEX.EFn2 X.prog X.K C fI f1 f2) (hr : Room k X.A) : Makes X C 2 (fun us => ⟨us, []⟩) (fun vs => [(f2, vs.getD 1 .non), (f1, vs.getD 0 .non)]) := by
  refine makes_of fun s us vs R hK hl hG hB r hn => ?_
  match vs, hn with
  | [v, v'], _ =>
    cases r with
    | cons rv rn =>
      cases rn with
      | cons rv' rn =>
        cases rn
        rename_i u u'
        exact ⟨[(f2, u'), (f1, u)], .cons rv' (.cons rv .nil), fun hq => PySem.MEX.made2 T G (v1 := u) (v2 := u') (fun x => fun qual p0 p1 p2 body doc pm an cd ct cc => G.fok.bp qual p0 p1 p2 body doc pm an cd ct cc x u u') (by show 2 ≤ sizeLine; decide) hK hl (by have := hr.dp; omega) hG hB hq⟩
theorem makes2k {f1 f2 : Str} (T : PySem.MEX.ECls X.prog X.K X.mg nm C fI B newId initId bm) (G : PySem.MEX.EFn2 X.prog X.K C fI f1 f2) (hr : Room k X.A) : Makes X C 2 (fun us => ⟨[], [f2, f1].zip us⟩) (fun vs => [(f2, vs.getD 0 .non), (f1, vs.getD 1 .non)]) := by
  refine makes_of fun s us vs R hK hl hG hB r hn => ?_
  match vs, hn with
  | [v, v'], _ =>
    cases r with
    | cons rv rn =>
      cases rn with
      | cons rv' rn =>
        cases rn
        rename_i u u'
        exact ⟨[(f2, u), (f1, u')], .cons rv (.cons rv' .nil), fun hq => PySem.MEX.made2 T G (v1 := u') (v2 := u) (fun x => fun qual p0 p1 p2 body doc pm an cd ct cc => G.fok.bk qual p0 p1 p2 body doc pm an cd ct cc x u' u) (Nat.zero_le _) hK hl (by have := hr.dp; omega) hG hB hq⟩
end
/-- nm(..) as a value -/
def tMkE (C : Addr) (n : Nat) (gv : List V → List (Str × V)) (ta : TA) : TE := fun σ H Q => ta σ H fun vs H1 => vs.length = n ∧ ∀ v H2, Same H1 H2 → IsErr H2 v C (gv vs) → Q v H2
section
variable {n : Nat} {gv : List V → List (Str × V)} {x : Str} {p pos : Pos} {e : Expr} {es : List Expr} {kws : List Keyword} {t tk : TA} {ks : List Str}
theorem pe_mkE (M : Makes X C n (fun us => ⟨us, []⟩) gv) (kC : PySem.W.keepIn X.K (.ref C) = true) (hg : Gl X x) (hm : X.mg x = some (.ref C)) (ha : PA X (e :: es) t) (hd : (x == ("__debug__" : Str)) = false := by decide)
    (he : starEach (e :: es) X.env = (false, eval e X.env) :: starEach es X.env := by rfl) (hpl : (backTo pos (starEach es X.env)).any (·.1) = false := by rfl) :
    PE X (.Call (.Name x p) (e :: es) [] pos) (tMkE C n gv t) := by
  refine ⟨fun pins s σ H Q I h => ?_⟩
  refine wpAny_Call_Name_kw (ld_glob I hg hm ?_ hd)
  refine PySem.W.callWith_K (h₀ := X.base) I.ok.mod.kin kC (thn (ha.run pos pins s σ H _ I h) fun us s1 hh => ?_) he hpl
  obtain ⟨vs, H1, I1, r1, hn, q1⟩ := hh
  exact ⟨I1.kIn, M pins σ H1 s1 Q us vs I1 r1 hn q1⟩
theorem pe_mkE0 (M : Makes X C 0 (fun us => ⟨us, []⟩) gv) (kC : PySem.W.keepIn X.K (.ref C) = true) (hg : Gl X x) (hm : X.mg x = some (.ref C)) (hd : (x == ("__debug__" : Str)) = false := by decide) :
    PE X (.Call (.Name x p) [] [] pos) (tMkE C 0 gv tNil) := by
  refine ⟨fun pins s σ H Q I h => ?_⟩
  refine wpAny_Call_Name_kw (ld_glob I hg hm ?_ hd)
  exact PySem.W.callWith_K0 I.kIn kC (M pins σ H s Q [] [] I .nil rfl h.2)
theorem pe_mkEK (M : Makes X C n (fun us => ⟨[], ks.zip us⟩) gv) (kC : PySem.W.keepIn X.K (.ref C) = true) (hg : Gl X x) (hm : X.mg x = some (.ref C)) (hkw : PK X kws tk)
    (hall : (backToKw pos (keywordEach kws X.env)).all (·.1.isSome) = true := by rfl) (hks : (backToKw pos (keywordEach kws X.env)).filterMap (·.1) = ks := by rfl) (hdb : (x == ("__debug__" : Str)) = false := by decide)
    (hpl : ((backTo pos (starEach [] X.env)).any (·.1) || (backToKw pos (keywordEach kws X.env)).any (·.1.isNone)) = false := by rfl) :
    PE X (.Call (.Name x p) [] kws pos) (tMkE C n gv tk) := by
  refine ⟨fun pins s σ H Q I h => ?_⟩
  refine wpAny_Call_Name_kw (ld_glob I hg hm ?_ hdb)
  refine PySem.W.callWith_KW0 (h₀ := X.base) I.ok.mod.kin kC hall ?_ hpl
  refine thn (hkw.run pos pins s σ H _ I h) fun ws s2 ⟨zs, H2, I2, rz, l1, q2⟩ => ⟨I2.kIn, ?_⟩
  rw [hks]
  exact M pins σ H2 s2 Q ws zs I2 rz l1 q2
end
/-- where an error stands -/
theorem inst_err {P : Program} {w : World} {H : Hp} {h : Heap} {v : V} {fs : List (Str × V)} (hok : HOk P w H h) (hv : IsErr H v C fs) : ∃ (e : Addr) (oe : Obj) (od : Option Obj), v = .ref e ∧ PySem.W.InstAt h e oe C od ∧ (∀ (f : Str) (y : V), fs.lookup f = some y → ∃ (o : Obj) (u : Value), od = some o ∧ RelV y u ∧ PySem.W.lookIn f o = some (some u)) := by
  obtain ⟨e, rfl, h1⟩ := hv
  rcases h1 with ⟨h1, h2⟩ | ⟨dx, h1, h2⟩
  · obtain ⟨t1, ho⟩ := exo_at hok h2
    refine ⟨e, _, none, rfl, ⟨ho, rfl, rfl, trivial⟩, fun f y q => ?_⟩
    rw [h1] at q
    cases q
  · obtain ⟨t1, ho⟩ := exo_at hok h1
    obtain ⟨mA, hns, rel⟩ := exd_at hok h2
    obtain ⟨od, hod, hl⟩ := lookIn_ns hns
    refine ⟨e, _, some od, rfl, ⟨ho, rfl, rfl, hod⟩, fun f y q => ?_⟩
    obtain ⟨u, hu, ru⟩ := RelO.some_of (v := y) (o := mA f) (by rw [← q]; exact rel f)
    exact ⟨od, u, rfl, ru, by rw [hl, hu]⟩
/-- e.f of an error -/
def tErrF (K : PySem.W.Frag) (f : Str) (te : TE) : TE := fun σ H Q => te σ H fun x H1 => ∃ (C : Addr) (fs : List (Str × V)) (v : V), IsErr H1 x C fs ∧ XfC K C ∧ PySem.W.findIn K (.ref C) f = some none ∧ fs.lookup f = some v ∧ Q v H1
theorem pe_errF {e : Expr} {te : TE} {pos : Pos} {n : Str} (he : PE X e te) (hb : attributeBase e n X.env (eval e X.env) = eval e X.env := by rfl) : PE X (.Attribute e n pos) (tErrF X.K n te) := by
  refine ⟨fun pins s σ H Q I h => ?_⟩
  refine attr_of hb (thn (he.run pins s σ H _ I h) fun u s1 hh => ?_)
  obtain ⟨x, H1, I1, rx, C, fs, v, hx, T, hno, l, q⟩ := hh
  obtain ⟨a, oe, od, rfl, J, hf⟩ := inst_err I1.hok hx
  obtain rfl : u = Value.ref a := rx
  obtain ⟨o, w, rfl, ru, hl⟩ := hf n v l
  exact HandSPX.exc_get I1.kIn J T.ga T.gg T.exC (PySem.W.findObj_own T.hdC hno rfl hl) (handed_of ru) ⟨v, H1, I1.tok _, ru, q⟩
/-- isinstance(error, c) -/
def rIsV (K : PySem.W.Frag) : List V → Hp → VK → Prop := fun xs H Q => ∃ (x c : V) (cv : Value) (C : Addr) (fs : List (Str × V)) (b : Bool), xs = [x, c] ∧ IsErr H x C fs ∧ ExcC K C ∧ (∀ u, RelV c u → u = cv) ∧ PySem.W.kitOne K (.ref C) cv = some b ∧ Q (.bl b) H
theorem call_isV : CallR X (.builtin "isinstance") (rIsV X.K) := by
  intro pins s σ H xs us Q I r h
  obtain ⟨x, c, cv, C, fs, b, rfl, hx, T, hcv, e, q⟩ := h
  cases r with
  | cons rx rr =>
    cases rr with
    | cons rt rr =>
      cases rr
      obtain ⟨a, oe, od, rfl, J, hf⟩ := inst_err I.hok hx
      cases rx
      have ec := hcv _ rt
      subst ec
      have hcl : (PySem.W.clsIn X.K C).isSome = true := by
        obtain ⟨cd, hc, _⟩ := PySem.W.any_some T.hd
        rw [hc]
        rfl
      exact PySem.W.kia_one (PySem.W.kitx_exc hcl T.hg T.hk T.hs T.ha T.hn T.ht T.hm) I.kIn J e (fun z => nomatch z) fun tk => ⟨.bl b, H, I.kept (t' := tk) fun _ _ z => z, rfl, q⟩
end
end L2
namespace MCH
open PySem PySem.Spec PyProof.Rows L2 PySem.W PySem.MEX PySem.HandSPX He
/-- an own error: its class's name, its fields, its base, its __init__ -/
structure ED where
  nm : Str
  fs : List Str
  B : String
  st : Stmt
def ED.nw (x : ED) : String := x.B ++ ".__new__"
def ED.ini (x : ED) : String := x.B ++ ".__init__"
def fnE (K : Frag) (x : ED) : FnV := match K.lookup (ma K (ga K x.nm) "__init__") with
  | some ⟨_, _, .func fd, _⟩ => some (fd.name, fd.params, fd.body, fd.scope, fd.globals, fd.builtins)
  | _ => none
def ED.val (x : ED) : FnV := some ("__init__", defArgs x.st, .stmts (defBody x.st), defScope x.st, mainGlobals, builtinsNs)
def ecB (K : Frag) (C : Addr) (newId : String) (bm : List Value) : Bool := match K.lookup C with
  | some ⟨.type c, _, .cls cd, sl⟩ => decide (c = "type") && (match cd.mro, sl.toList with
    | .ref C' :: bm', [_, _, _, _, some (.builtin n), _] => decide (C' = C) && (decide (n = newId) && (!cd.hasDel && (cd.hasDict && (bm' == bm))))
    | _, _ => false)
  | _ => false
theorem ecB_ok {K : Frag} {C : Addr} {newId : String} {bm : List Value} (h : ecB K C newId bm = true) : ∃ nm q N bs sn sub ab col dd k0 k1 k2 k3 k5, K.lookup C = some (excClassObj nm q C N bs bm true sn sub ab col dd k0 k1 k2 k3 k5 newId) := by
  unfold ecB at h
  cases q : K.lookup C with
  | none => rw [q] at h; cases h
  | some o =>
    obtain ⟨oc, od, dt, sl⟩ := o
    rw [q] at h
    cases oc with
    | type c =>
      cases dt with
      | cls cd =>
        obtain ⟨h1, h2⟩ := ba h
        have e1 : c = "type" := of_decide_eq_true h1
        subst e1
        obtain ⟨nm, bs, mro, ns, qn, hd, sn, sb, ab, col, del⟩ := cd
        obtain ⟨sl⟩ := sl
        dsimp only at h2
        split at h2
        · rename_i C' bm' k0 k1 k2 k3 n k5
          obtain ⟨a1, h3⟩ := ba h2
          obtain ⟨a2, h4⟩ := ba h3
          obtain ⟨a3, h5⟩ := ba h4
          obtain ⟨a4, a5⟩ := ba h5
          have z1 := of_decide_eq_true a1
          have z2 := of_decide_eq_true a2
          have z3 := beq_iff_eq.mp a5
          subst z1 z2 z3
          simp only [Bool.not_eq_true'] at a3
          subst a3 a4
          exact ⟨nm, qn, ns, bs, sn, sb, ab, col, od, k0, k1, k2, k3, k5, rfl⟩
        · cases h2
      | _ => cases h
    | _ => cases dt <;> cases h
def eB (prog : Program) (bm : String → List Value) (K : Frag) (x : ED) : Bool :=
  eqO (nsIn K mainGlobals x.nm) (some (some (.ref (ga K x.nm)))) && (ecB K (ga K x.nm) x.nw (bm x.B) && (eqO (findIn K (.ref (ga K x.nm)) "__setattr__") (some (some (.builtin "object.__setattr__"))) &&
  (eqO (findIn K (.ref (ga K x.nm)) "__getattribute__") (some (some (.builtin "BaseException.__getattribute__"))) && (eqO (findIn K (.ref (ga K x.nm)) "__getattr__") (some none) && ((x.fs.all fun f => eqO (findIn K (.ref (ga K x.nm)) f) (some none)) &&
  (eqO (findIn K (.ref (ga K x.nm)) "__init__") (some (some (.ref (ma K (ga K x.nm) "__init__")))) && (decide (typeIn K (.ref (ma K (ga K x.nm) "__init__")) = some (.type "function")) && (keepIn K (.ref (ga K x.nm)) &&
  (decide (subIn K (.ref (ga K x.nm)) (.type "BaseException") = some true) && (decide (subIn K (.ref (ga K x.nm)) (.type x.B) = some true) && (hasDictIn K (ga K x.nm) &&
  (decide (mroIn K (ga K x.nm) (.ref (ga K x.nm)) = some true) && (eqO (ks_superIn K (ga K x.nm) (ga K x.nm) "__init__") (some (some (.builtin x.ini))) &&
  (eqO (nsIn K cStatics "thirdparty.any") (some none) && (eqO (nsIn K mainGlobals "super") (some none) &&
  (eqO (findIn K (.ref (ga K x.nm)) "__class__") (some (some (.builtin "object.__class__"))) && (eqO (specialIn K (.builtin "object.__class__") "__get__") (some (some (.builtin "getset_descriptor.__get__"))) && (decide (takesIn K (.builtin "object.__class__") = some true) &&
  (decide (mroIn K (ga K x.nm) (.type "object") = some true) && fnB prog K (ga K x.nm) (ma K (ga K x.nm) "__init__"))))))))))))))))))))
theorem eB_ok {prog : Program} {bmf : String → List Value} {K : Frag} {h : Heap} {mg : Str → Option Value} (X : K.In h) (G : h.Ns mainGlobals mg) {x : ED} (c : eB prog bmf K x = true) (htop : (prog.main.scope.names.lookup ("super" : Str)).isSome = false)
    (b : BaseE x.B x.nw x.ini (bmf x.B)) :
    ECls prog K mg x.nm (ga K x.nm) (ma K (ga K x.nm) "__init__") x.B x.nw x.ini (bmf x.B) ∧ (∀ f ∈ x.fs, findIn K (.ref (ga K x.nm)) f = some none) ∧ fnB prog K (ga K x.nm) (ma K (ga K x.nm) "__init__") = true := by
  unfold eB at c
  simp only [Bool.and_eq_true] at c
  obtain ⟨c1, c2, c3, c4, c5, c6, c7, c8, c9, c10, c11, c13, c15, c16, c17, c18, d1, d2, d3, d4, c19⟩ := c
  exact ⟨{ base := b, gC := mg_of X G (eqO_ok c1), cls := ecB_ok c2, sa := eqO_ok c3, ga := eqO_ok c4, gg := eqO_ok c5, iC := eqO_ok c7, tC := of_decide_eq_true c8, kC := c9, exC := of_decide_eq_true c10, beC := of_decide_eq_true c11, hdC := c13, mC := of_decide_eq_true c15, su := eqO_ok c16, tp := eqO_ok c17, noS := mg_none_of X G (eqO_ok c18), top := htop, cl1 := eqO_ok d1, cl2 := eqO_ok d2, cl3 := of_decide_eq_true d3, cl4 := of_decide_eq_true d4 },
    fun f hf => eqO_ok (List.all_eq_true.mp c6 f hf), c19⟩
theorem eFn0_ok {prog : Program} {K : Frag} {x : ED} (c19 : fnB prog K (ga K x.nm) (ma K (ga K x.nm) "__init__") = true) (no : ∀ f ∈ x.fs, findIn K (.ref (ga K x.nm)) f = some none) (e : fnE K x = x.val) (fok : FOk0) (hfs : x.fs = [])
    {p0 q1 q2 q3 q5 q6 : Pos} (eA : defArgs x.st = iA0  p0) (eB : defBody x.st = iB0  q1 q2 q3 q5 q6) (eS : defScope x.st = iS0) (hpos : (q3.endLine == q5.line) = true) :
    EFn0 prog K (ga K x.nm) (ma K (ga K x.nm) "__init__") := by
  refine { fok := fok, fn := ?_ }
  unfold fnB at c19
  unfold fnE ED.val at e
  cases q : K.lookup (ma K (ga K x.nm) "__init__") with
  | none => rw [q] at c19; cases c19
  | some o =>
    obtain ⟨oc, od, dt, osl⟩ := o
    rw [q] at c19 e
    cases dt with
    | func fd =>
      obtain ⟨n1, n2, n3, n4, n5, n6, n7, n8, n9, n10, n11, n12, n13, n14, n15⟩ := fd
      simp only [Option.some.injEq, Prod.mk.injEq] at e
      obtain ⟨h1, h3, h4, h5, h6, h8⟩ := e
      rw [eA] at h3
      rw [eB] at h4
      rw [eS] at h5
      subst h1 h3 h4 h5 h6 h8
      dsimp only at c19
      simp only [Bool.and_eq_true, decide_eq_true_eq] at c19
      obtain ⟨d1, d2, d3⟩ := c19
      subst d1 d2
      split at d3
      · rename_i cda y cc
        simp only [Bool.and_eq_true, decide_eq_true_eq] at d3
        obtain ⟨m1, m2, m3, m4⟩ := d3
        subst m1
        refine ⟨n2, oc, od, n10, n11, n12, cda, n14, cc, osl, p0, q1, q2, q3, q5, q6, rfl, m2, ?_, ?_, hpos⟩
        · split at m3
          · rename_i _ _ vs _ e1
            split at m3
            · rename_i file tf e2
              exact ⟨_, _, vs, _, file, tf, e1, e2, m3⟩
            · cases m3
          · cases m3
        · split at m4
          · rename_i _ _ D _ e1
            have z := of_decide_eq_true m4
            subst z
            exact ⟨_, _, _, e1⟩
          · cases m4
      · cases d3
    | _ => cases c19
theorem eFn1_ok {prog : Program} {K : Frag} {x : ED} {f1 : Str} (c19 : fnB prog K (ga K x.nm) (ma K (ga K x.nm) "__init__") = true) (no : ∀ f ∈ x.fs, findIn K (.ref (ga K x.nm)) f = some none) (e : fnE K x = x.val) (fok : FOk1 f1) (hfs : x.fs = [f1])
    {p0 p1 q1 q2 q3 q5 q6 a1 b1 c1 d1 e1 : Pos} (eA : defArgs x.st = iA1 f1 p0 p1) (eB : defBody x.st = iB1 f1 q1 q2 q3 q5 q6 a1 b1 c1 d1 e1) (eS : defScope x.st = iS1 f1) (hpos : (q3.endLine == q5.line) = true) :
    EFn1 prog K (ga K x.nm) (ma K (ga K x.nm) "__init__") f1 := by
  refine { fok := fok, no1 := no f1 (by rw [hfs]; simp), fn := ?_ }
  unfold fnB at c19
  unfold fnE ED.val at e
  cases q : K.lookup (ma K (ga K x.nm) "__init__") with
  | none => rw [q] at c19; cases c19
  | some o =>
    obtain ⟨oc, od, dt, osl⟩ := o
    rw [q] at c19 e
    cases dt with
    | func fd =>
      obtain ⟨n1, n2, n3, n4, n5, n6, n7, n8, n9, n10, n11, n12, n13, n14, n15⟩ := fd
      simp only [Option.some.injEq, Prod.mk.injEq] at e
      obtain ⟨h1, h3, h4, h5, h6, h8⟩ := e
      rw [eA] at h3
      rw [eB] at h4
      rw [eS] at h5
      subst h1 h3 h4 h5 h6 h8
      dsimp only at c19
      simp only [Bool.and_eq_true, decide_eq_true_eq] at c19
      obtain ⟨d1, d2, d3⟩ := c19
      subst d1 d2
      split at d3
      · rename_i cda y cc
        simp only [Bool.and_eq_true, decide_eq_true_eq] at d3
        obtain ⟨m1, m2, m3, m4⟩ := d3
        subst m1
        refine ⟨n2, oc, od, n10, n11, n12, cda, n14, cc, osl, p0, p1, q1, q2, q3, q5, q6, a1, b1, c1, d1, e1, rfl, m2, ?_, ?_, hpos⟩
        · split at m3
          · rename_i _ _ vs _ e1
            split at m3
            · rename_i file tf e2
              exact ⟨_, _, vs, _, file, tf, e1, e2, m3⟩
            · cases m3
          · cases m3
        · split at m4
          · rename_i _ _ D _ e1
            have z := of_decide_eq_true m4
            subst z
            exact ⟨_, _, _, e1⟩
          · cases m4
      · cases d3
    | _ => cases c19
theorem eFn2_ok {prog : Program} {K : Frag} {x : ED} {f1 f2 : Str} (c19 : fnB prog K (ga K x.nm) (ma K (ga K x.nm) "__init__") = true) (no : ∀ f ∈ x.fs, findIn K (.ref (ga K x.nm)) f = some none) (e : fnE K x = x.val) (fok : FOk2 f1 f2) (hfs : x.fs = [f1, f2])
    {p0 p1 p2 q1 q2 q3 q5 q6 a1 a2 b1 c1 d1 e1 b2 c2 d2 e2 : Pos} (eA : defArgs x.st = iA2 f1 f2 p0 p1 p2) (eB : defBody x.st = iB2 f1 f2 q1 q2 q3 q5 q6 a1 a2 b1 c1 d1 e1 b2 c2 d2 e2) (eS : defScope x.st = iS2 f1 f2) (hpos : (q3.endLine == q5.line) = true) :
    EFn2 prog K (ga K x.nm) (ma K (ga K x.nm) "__init__") f1 f2 := by
  refine { fok := fok, no1 := no f1 (by rw [hfs]; simp), no2 := no f2 (by rw [hfs]; simp), fn := ?_ }
  unfold fnB at c19
  unfold fnE ED.val at e
  cases q : K.lookup (ma K (ga K x.nm) "__init__") with
  | none => rw [q] at c19; cases c19
  | some o =>
    obtain ⟨oc, od, dt, osl⟩ := o
    rw [q] at c19 e
    cases dt with
    | func fd =>
      obtain ⟨n1, n2, n3, n4, n5, n6, n7, n8, n9, n10, n11, n12, n13, n14, n15⟩ := fd
      simp only [Option.some.injEq, Prod.mk.injEq] at e
      obtain ⟨h1, h3, h4, h5, h6, h8⟩ := e
      rw [eA] at h3
      rw [eB] at h4
      rw [eS] at h5
      subst h1 h3 h4 h5 h6 h8
      dsimp only at c19
      simp only [Bool.and_eq_true, decide_eq_true_eq] at c19
      obtain ⟨d1, d2, d3⟩ := c19
      subst d1 d2
      split at d3
      · rename_i cda y cc
        simp only [Bool.and_eq_true, decide_eq_true_eq] at d3
        obtain ⟨m1, m2, m3, m4⟩ := d3
        subst m1
        refine ⟨n2, oc, od, n10, n11, n12, cda, n14, cc, osl, p0, p1, p2, q1, q2, q3, q5, q6, a1, a2, b1, c1, d1, e1, b2, c2, d2, e2, rfl, m2, ?_, ?_, hpos⟩
        · split at m3
          · rename_i _ _ vs _ e1
            split at m3
            · rename_i file tf e2
              exact ⟨_, _, vs, _, file, tf, e1, e2, m3⟩
            · cases m3
          · cases m3
        · split at m4
          · rename_i _ _ D _ e1
            have z := of_decide_eq_true m4
            subst z
            exact ⟨_, _, _, e1⟩
          · cases m4
      · cases d3
    | _ => cases c19
/-! ### the hook -/
def asS (g : Addr → Option Obj) : Nat → List Addr
  | 0 => [mainGlobals, cStatics, sysModules]
  | n + 1 => growD g (asS g n)
def obsE (n : Nat) (prog : Program) (bm : String → List Value) (fa : List Fa) (fn : List DefD) (xs : List ED) (ex : Frag → Bool) (g : Addr → Option Obj) : AlM :=
  (obsD fa fn (frG g (asS g n)), (xs.all fun x => eB prog bm (frG g (asS g n)) x) && ex (frG g (asS g n)), xs.map fun x => fnE (frG g (asS g n)) x)
def valE (fn : List DefD) (xs : List ED) : AlM := (valD fn, true, xs.map ED.val)
structure SaysEr (prog : Program) (bm : String → List Value) (fa : List Fa) (fn : List DefD) (xs : List ED) (ex : Frag → Bool) (K : Frag) : Prop where
  d : SaysD fa fn K
  x : ∀ x ∈ xs, eB prog bm K x = true ∧ fnE K x = x.val
  e : ex K = true
theorem saysEr_of {n : Nat} {prog : Program} {bm : String → List Value} {fa : List Fa} {fn : List DefD} {xs : List ED} {ex : Frag → Bool} {g : Addr → Option Obj} (e : obsE n prog bm fa fn xs ex g = valE fn xs) : SaysEr prog bm fa fn xs ex (frG g (asS g n)) := by
  have e1 := congrArg (fun z : AlM => z.1) e
  have e2 := congrArg (fun z : AlM => z.2.1) e
  have e3 := congrArg (fun z : AlM => z.2.2) e
  obtain ⟨b1, b2⟩ := ba e2
  exact ⟨e1, fun x hx => ⟨List.all_eq_true.mp b1 x hx, map_eq_at e3 x hx⟩, b2⟩
def hookE (n : Nat) (prog : Program) (bm : String → List Value) (fa : List Fa) (fn : List DefD) (xs : List ED) (ex : Frag → Bool) : PySem.W.Hook where
  α := AlM
  obs := fun s => obsE n prog bm fa fn xs ex s.heap.get?
  val := fun _ => valE fn xs
  says := fun w h => ∃ K : PySem.W.Frag, K.In h ∧ SaysEr prog bm fa fn xs ex K
  of := fun _ _ e => ⟨_, frG_in, saysEr_of e⟩
  keeps := fun _ _ _ ⟨K, hK, c⟩ k => ⟨K, PySem.W.Frag.In.keeps hK k, c⟩
theorem obsE_eq {n : Nat} {prog : Program} {bm : String → List Value} {fa : List Fa} {fn : List DefD} {xs : List ED} {ex : Frag → Bool} {g : Addr → Option Obj} {s : Shared} (h : ∀ a, g a = s.heap.get? a) : obsE n prog bm fa fn xs ex g = (hookE n prog bm fa fn xs ex).obs s := by
  have e : g = s.heap.get? := funext h
  rw [e] <;> rfl
end MCH
namespace L2
open PySem PySem.Spec PyProof.Rows
/-! ### repr of data with empty dicts in it -/
/-- the written part knows sys.modules, a dict -/
def SysK (K : PySem.W.Frag) : Prop := ∃ o : Obj, K.lookup sysModules = some o ∧ o.cls = .type "dict"
section
variable {X : Cx} {pins : List (Addr × Obj)} {σ : St} {H : Hp} {s : Shared}
mutual
theorem Dq.reads (hS : SysK X.K) (I : Inv X pins σ H s) : ∀ (d : PyData) (v : V) (u : Value), Dq X.K H v d → RelV v u → ∃ as, Reads s.heap u d as ∧ sysModules ∉ as
  | .none, _, _, h, r => by
    cases h
    cases r
    exact ⟨_, Reads.none, by simp⟩
  | .bool b, _, _, h, r => by
    cases h
    cases r
    exact ⟨_, Reads.bool b, by simp⟩
  | .int i, _, _, h, r => by
    cases h
    obtain ⟨t, rfl⟩ := r
    exact ⟨_, Reads.int i t, by simp⟩
  | .str x, _, _, h, r => by
    cases h
    obtain ⟨t, rfl⟩ := r
    exact ⟨_, Reads.str x t, by simp⟩
  | .list ds, _, _, h, r => by
    cases h with
    | lst hs ha =>
      cases r
      obtain ⟨its, rv, ⟨o, n, ho, hc, _, hd⟩, _⟩ := I.list hs
      obtain ⟨as, hr, hn⟩ := DqA.reads hS I ds _ its ha rv
      refine ⟨_, Reads.list ho hc hd hr, fun z => ?_⟩
      rcases List.mem_cons.mp z with z | z
      · obtain ⟨o', h1, h2⟩ := hS
        have q := I.kIn _ _ h1
        rw [z, ho] at q
        cases q
        rw [hc] at h2
        exact absurd h2 (by decide)
      · exact hn z
  | .tuple ds, _, _, h, r => by
    cases h with
    | tup hs ha =>
      cases r
      obtain ⟨its, rv, ⟨o, ho, hc, n, hd⟩, _⟩ := I.tuple hs
      obtain ⟨as, hr, hn⟩ := DqA.reads hS I ds _ its ha rv
      exact ⟨_, Reads.tuple ho hc hd hr, hn⟩
  | .dict kvs, _, _, h, r => by
    cases h with
    | dct hd =>
      cases r
      rename_i a
      obtain ⟨_, ns, vs, hkv, o, es, ep, ho, ex, dt, _, pr, _⟩ := I.hok a _ hd
      cases hkv
      have e0 : es.toList = [] := by
        revert pr
        generalize es.toList = z
        intro pr
        cases pr
        rfl
      refine ⟨_, Reads.dict (kvs := []) (as := []) (bs := []) ho ex.1 dt (by rw [e0]; exact ReadsAll.nil) (by rw [e0]; exact ReadsAll.nil), fun z => ?_⟩
      have z' : sysModules = a := by simpa using z
      rw [z'] at ns
      simp at ns
theorem DqA.reads (hS : SysK X.K) (I : Inv X pins σ H s) : ∀ (ds : List PyData) (vs : List V) (us : List Value), DqA X.K H vs ds → Vals vs us → ∃ as, ReadsAll s.heap us ds as ∧ sysModules ∉ as
  | [], _, _, h, r => by
    cases h
    cases r
    exact ⟨_, ReadsAll.nil, by simp⟩
  | d :: ds, _, _, h, r => by
    cases h with
    | cons h1 h2 =>
      cases r with
      | cons r1 r2 =>
        obtain ⟨as, q1, n1⟩ := Dq.reads hS I d _ _ h1 r1
        obtain ⟨bs, q2, n2⟩ := DqA.reads hS I ds _ _ h2 r2
        exact ⟨_, ReadsAll.cons q1 q2, fun z => (List.mem_append.mp z).elim n1 n2⟩
end
end
/-- repr(x) -/
def rReprQ (K : PySem.W.Frag) : List V → Hp → VK → Prop := fun xs H Q => ∃ (v : V) (d : PyData), xs = [v] ∧ Dq K H v d ∧ d.showable = true ∧ d.depth ≤ 60 ∧ d.shown.length ≤ sizeLine ∧ Q (.str d.shown) H
theorem call_reprQ {X : Cx} (hS : SysK X.K) (hgd : X.A.guards = some []) (hu : X.A.units + 64 < cLine) : CallR X (.builtin "repr") (rReprQ X.K) := by
  intro pins s σ H xs us Q I r h
  obtain ⟨v, d, rfl, hd, sh, dp, hz, q⟩ := h
  obtain ⟨u, rfl, ru⟩ := vals1 r
  obtain ⟨as, hr, hns⟩ := Dq.reads hS I d v u hd ru
  cases hd with
  | non => cases (show u = Value.none from ru); exact PySem.P.repr_of_none ⟨.str _, H, I.tok _, ⟨_, rfl⟩, q⟩
  | bl b => cases (show u = Value.bool b from ru); exact PySem.P.repr_of_bool ⟨.str _, H, I.tok _, ⟨_, rfl⟩, q⟩
  | int i =>
    obtain ⟨t, rfl⟩ := (show ∃ t, u = Value.int i t from ru)
    exact PySem.P.repr_of_int (by simpa [PyData.showable] using sh) ⟨.str _, H, I.tok _, ⟨_, rfl⟩, q⟩
  | str x =>
    obtain ⟨t, rfl⟩ := (show ∃ t, u = Value.str x t from ru)
    exact PySem.P.repr_of_str ⟨.str _, H, I.tok _, ⟨_, rfl⟩, q⟩ hz
  | lst hs ha =>
    cases ru
    exact repr_of_reads' hr sh (fun _ => hns) hgd (by omega) (fun _ _ e => e) (fun h' u tk hk => ⟨.str _, H, I.kept (t' := tk) hk, ⟨_, rfl⟩, q⟩) hz
  | tup hs ha =>
    cases ru
    exact repr_of_reads' hr sh (fun _ => hns) hgd (by omega) (fun _ _ e => e) (fun h' u tk hk => ⟨.str _, H, I.kept (t' := tk) hk, ⟨_, rfl⟩, q⟩) hz
  | dct hs =>
    cases ru
    exact repr_of_reads' hr sh (fun _ => hns) hgd (by omega) (fun _ _ e => e) (fun h' u tk hk => ⟨.str _, H, I.kept (t' := tk) hk, ⟨_, rfl⟩, q⟩) hz
/-! ### n small data in a list -/
def heldB (d : PyData) : Bool := d.showable && (d.leavesShort 40 && (decide (d.depth ≤ 3) && decide (d.weight ≤ 200)))
structure Held (d : PyData) : Prop where
  sh : d.showable = true
  lv : d.leavesShort 40 = true
  dp : d.depth ≤ 3
  wt : d.weight ≤ 200
theorem held_of {d : PyData} (h : heldB d = true) : Held d := by
  unfold heldB at h
  simp only [Bool.and_eq_true, decide_eq_true_eq] at h
  exact ⟨h.1, h.2.1, h.2.2.1, h.2.2.2⟩
theorem held_rep {d : PyData} (h : Held d) : ∀ n : Nat, PyData.showableAll (List.replicate n d) = true ∧ PyData.leavesShortAll 40 (List.replicate n d) = true ∧ PyData.depthAll (List.replicate n d) ≤ 3 ∧ PyData.weightAll (List.replicate n d) ≤ 201 * n
  | 0 => ⟨rfl, rfl, Nat.zero_le _, Nat.zero_le _⟩
  | n + 1 => by
    obtain ⟨a1, a2, a3, a4⟩ := held_rep h n
    obtain ⟨c1, c2, c3, c4⟩ := h
    rw [List.replicate_succ]
    refine ⟨by simp [PyData.showableAll, c1, a1], by simp [PyData.leavesShortAll, c2, a2], ?_, ?_⟩
    · simp only [PyData.depthAll]; omega
    · simp only [PyData.weightAll]; omega
theorem held_list {d : PyData} (h : Held d) {n : Nat} (hn : n ≤ 1000) : (PyData.list (List.replicate n d)).showable = true ∧ (PyData.list (List.replicate n d)).depth ≤ 60 ∧ (PyData.list (List.replicate n d)).shown.length ≤ sizeLine := by
  obtain ⟨a1, a2, a3, a4⟩ := held_rep h n
  refine ⟨by simp [PyData.showable, a1], by simp only [PyData.depth]; omega, ?_⟩
  have z := PyData.shown_le 40 (by decide) (.list (List.replicate n d)) (by simpa only [PyData.leavesShort] using a2)
  simp only [PyData.weight] at z
  rw [sizeLine_eq]
  omega
theorem held_int {i : Int} (h : i.natAbs < 10 ^ 31) : Held (.int i) := by
  have e1 : i.natAbs.log2 < 104 := by
    by_cases h0 : i.natAbs = 0
    · rw [h0]; decide
    · exact (Nat.log2_lt h0).mpr (Nat.lt_trans h (by decide))
  refine ⟨by simp only [PyData.showable, decide_eq_true_eq]; omega, ?_, by simp [PyData.depth], ?_⟩
  · have e := int_text_length_le10 (k := 31) (by decide) h
    simp only [PyData.leavesShort, decide_eq_true_eq]
    show (Str.ofString (toString i)).length ≤ 40
    rw [PySem.ofString_length]
    omega
  · simp only [PyData.weight]
    split <;> omega
end L2
namespace L2
open PySem PySem.Spec PyProof.Rows
/-! ### match over texts -/
def tStrCase (zs : List Str) (hit : TS) (miss : TM) : TM := fun v D σ H => ∃ z, v = .str z ∧ (z ∈ zs → hit D σ H) ∧ (z ∉ zs → miss v D σ H)
section
variable {X : Cx} {pos pp pq : Pos} {body : List Stmt} {rest : List MatchCase} {t : TS} {r : TM}
theorem str_pat {pins : List (Addr × Obj)} {s : Shared} {σ : St} {H : Hp} {z c : Str} {u : Value} {j : Nat} {p : Pos} {Q : Option (List (Str × Value)) → Shared → Prop} (I : Inv X pins σ H s) (rv : RelV (.str z) u)
    (yes : z = c → ∀ s', Inv X pins σ H s' → Q (some []) s') (no : z ≠ c → ∀ s', Inv X pins σ H s' → Q none s') :
    wpAny (model X.prog X.w) X.A (matchPattern (.MatchValue (.Constant (.str c) j p) pos) X.env u) Q X.xe s := by
  refine wpAny_matchPattern_Value (thn ((pe_str (X := X)).run pins s σ H (fun v H' => v = .str c ∧ H' = H) I ⟨rfl, rfl⟩) fun x s1 hx => ?_)
  obtain ⟨v, H1, I1, rx, rfl, rfl⟩ := hx
  refine thn (op_eq pins s1 σ H1 _ _ u x (fun v H' => v = .bl (decide (V.str z = V.str c)) ∧ H' = H1) I1 rv rx ⟨rfl, rfl, rfl⟩) fun c' s2 hc => ?_
  obtain ⟨v, H2, I2, rc, rfl, rfl⟩ := hc
  obtain rfl : c' = Value.bool (decide (V.str z = V.str c)) := rc
  refine wpAny_truthy_bool ?_
  by_cases e : z = c
  · rw [decide_eq_true (by rw [e])]
    exact yes e s2 I2
  · rw [decide_eq_false (fun q => e (by injection q))]
    exact no e s2 I2
/-- case 'c' -/
theorem pm_str1 {c : Str} {j : Nat} {p : Pos} (hb : PSs X body t) (hr : PMs X rest r) : PMs X (⟨.MatchValue (.Constant (.str c) j p) pp, none, body⟩ :: rest) (tStrCase [c] t r) := by
  refine ⟨fun pins s σ H D v u first I rv hw => ?_⟩
  obtain ⟨z, rfl, h1, h2⟩ := hw
  refine wpAny_matchCases_cons (str_pat I rv (fun e s' I' => ?_) (fun e s' I' => ?_))
  · exact wpAny_assignInOrder_none (hb.run pins s' σ H D I' (h1 (by simp [e])))
  · exact hr.run pins s' σ H D _ u false I' rv (h2 (by simp [e]))
/-- case 'c' | 'd' -/
theorem pm_str2 {c d : Str} {j k : Nat} {p q p' q' : Pos} (hb : PSs X body t) (hr : PMs X rest r) :
    PMs X (⟨.MatchOr [.MatchValue (.Constant (.str c) j p) p', .MatchValue (.Constant (.str d) k q) q'] pp, none, body⟩ :: rest) (tStrCase [c, d] t r) := by
  refine ⟨fun pins s σ H D v u first I rv hw => ?_⟩
  obtain ⟨z, rfl, h1, h2⟩ := hw
  refine wpAny_matchCases_cons (wpAny_matchPattern_Or (wpAny_matchFirst_cons (str_pat I rv (fun e s' I' => ?_) (fun e s' I' => ?_))))
  · exact wpAny_assignInOrder_none (hb.run pins s' σ H D I' (h1 (by simp [e])))
  · refine wpAny_matchFirst_cons (str_pat I' rv (fun e2 s2 I2 => ?_) (fun e2 s2 I2 => ?_))
    · exact wpAny_assignInOrder_none (hb.run pins s2 σ H D I2 (h1 (by simp [e2])))
    · exact wpAny_matchFirst_nil (hr.run pins s2 σ H D _ u false I2 rv (h2 (by simp [e, e2])))
end
/-! ### D.get(k, x), D a dict of the written part with text keys -/
structure KTab (K : PySem.W.Frag) (w : World) (d : Addr) (g : Str → Option V) : Prop where
  kd : ∃ es n, KDict K w d es n
  at_ : ∀ k, match g k with
    | none => PySem.W.nsIn K d k = some none
    | some v => ∃ u, PySem.W.nsIn K d k = some (some u) ∧ RelV v u
def tKGet2 (g : Str → Option V) (ty tx : TE) : TE := fun σ H Q => ty σ H fun y H2 => tx σ H2 fun z H3 => ∃ k, y = .str k ∧ Q ((g k).getD z) H3
section
variable {X : Cx} {e f : Expr} {apos cpos p : Pos} {ty tx : TE} {x : Str} {d : Addr} {g : Str → Option V}
theorem pe_kget2 (T : KTab X.K X.w d g) (hg : Gl X x) (hm : X.mg x = some (.ref d)) (he : PE X e ty) (hf : PE X f tx) (m : M2 X (.Name x p) "get" apos e f cpos) (hdb : (x == ("__debug__" : Str)) = false := by decide) :
    PE X (.Call (.Attribute (.Name x p) "get" apos) [e, f] [] cpos) (tKGet2 g ty tx) := by
  obtain ⟨es, n, D⟩ := T.kd
  refine ⟨fun pins s σ H Q I h => ?_⟩
  refine wpAny_Call_method m.base m.few m.line PySem.F.plainAttrs_dict PySem.F.slot_dict_get PySem.F.type_dict_get (thn ((pe_glob (v := .ref d) hg hm rfl hdb).run pins s σ H (fun v H' => v = .ref d ∧ H' = H) I ⟨rfl, rfl⟩) fun u s1 hx => ?_)
  obtain ⟨v, H1, I1, rx, rfl, rfl⟩ := hx
  obtain rfl : u = Value.ref d := rx
  refine ⟨kd_type D I1, fun b q => ?_, ?_⟩
  · cases q
    exact ⟨_, I1.kIn _ _ D.at_, rfl⟩
  rw [m.trees]
  refine Calls.callWith_builtin rfl (Calls.evalArgs_plain (Calls.spliced_cons (thn (he.run pins s1 σ H1 _ I1 h) fun iv s2 ⟨y, H2, I2, ry, q2⟩ =>
    Calls.spliced_cons (thn (hf.run pins s2 σ H2 _ I2 q2) fun fv s3 ⟨z, H3, I3, rz, k, ey, q3⟩ => Calls.spliced_nil ?_))))
  subst ey
  obtain ⟨t, rfl⟩ := ry
  refine call_meetsIn PySem.F.slot_dict_get (kd_type D I3) PySem.F.entry_dict_get (PySem.F.args_dict_get_3 _ _ _) (meets_dict_get_default (strKind X.prog X.w) d (PySem.strKind_is X.prog X.w k t) D.low fv) ⟨_, PySem.W.mapOf_K (prog := X.prog) I3.kIn D.at_ D.lit, ?_⟩
  have ha := T.at_ k
  cases hk : g k with
  | none =>
    rw [hk] at ha
    rw [PySem.W.find_K D.at_ ha]
    exact ⟨z, H3, I3.tok _, rz, by rw [hk] at q3; exact q3⟩
  | some v =>
    rw [hk] at ha
    obtain ⟨u, e1, r1⟩ := ha
    rw [PySem.W.find_K D.at_ e1]
    exact ⟨v, H3, I3.tok _, r1, by rw [hk] at q3; exact q3⟩
end
/-- what a table's keys tell of other names -/
theorem kmiss_of {K : PySem.W.Frag} {P : Params} {d : Addr} {es : Array DictEntry} {n : Nat} {ks : List Str} {k : Str} (hl : K.lookup d = some ⟨.type "dict", none, .dict es n, #[]⟩) (hk : es.toList.map He.keyOf = He.keysIn P ks) (nk : k ∉ ks) : PySem.W.nsIn K d k = some none := by
  have key : ∀ (l : List DictEntry) (ks : List Str), l.map He.keyOf = He.keysIn P ks → k ∉ ks → l.find? (·.key.isStr k) = none ∧ l.any (·.refKey) = false := by
    intro l
    induction l with
    | nil => intro ks _ _; exact ⟨rfl, rfl⟩
    | cons e r ih =>
      intro ks h nk
      cases ks with
      | nil => cases h
      | cons k0 ks =>
        have h1 : He.keyOf e :: r.map He.keyOf = some (k0, PyData.keyHash P k0) :: He.keysIn P ks := h
        injection h1 with h2 h3
        obtain ⟨z1, z2⟩ := ih ks h3 (fun m => nk (List.mem_cons_of_mem _ m))
        unfold He.keyOf at h2
        split at h2
        · rename_i x t q
          have h4 := Option.some.inj h2
          obtain ⟨h5, h6⟩ := Prod.mk.inj h4
          have nx : k ≠ x := fun z => nk (by rw [z, h5]; exact List.mem_cons_self)
          refine ⟨?_, ?_⟩
          · rw [List.find?_cons, q]
            have : (Value.str x t).isStr k = false := by
              simp [Value.isStr, Ne.symm nx]
            rw [this]
            exact z1
          · rw [List.any_cons, z2]
            unfold DictEntry.refKey
            rw [q]
            rfl
        · cases h2
  obtain ⟨z1, z2⟩ := key es.toList ks hk nk
  unfold PySem.W.nsIn
  rw [hl]
  dsimp only
  rw [z1, z2]
  rfl
end L2
namespace L2
open PySem PySem.Spec PyProof.Rows
/-! ### sum of a tuple of ints -/
section
variable {prog : Program} {w : World} {A : Around} {E : Value → Shared → Prop} {s : Shared} {l : Addr} {its : List Value} {ns : List Int} {Q : Value → Shared → Prop}
theorem sum_rawT (hh : A.handled = none) (ht : IsTup s.heap l its.toArray) (hi : IntsAre its ns)
    (h : ∀ h' tk t', (∀ b o, s.heap.get? b = some o → h'.get? b = some o) → Q (.int ns.sum t') { s with heap := h', toks := tk }) : wpAny (model prog w) A (call (.builtin "sum") [.ref l]) Q E s := by
  obtain ⟨xs, e⟩ := hi.allInts.items
  have hn : numsOf (intItems xs).toList = ns := by rw [← e]; exact hi.numsOf
  rw [nums_intItems] at hn
  rw [e] at ht
  have hlt : l < s.heap.objs.size := ht.lt
  refine PySem.call_sum_walkG (iter_tuple ht ?_)
  have ht2 := ht.push (o := { cls := .type "tuple_iterator", data := .fields #[.ref l, .int 0 0] })
  have hT : (s.heap.push { cls := .type "tuple_iterator", data := .fields #[.ref l, .int 0 0] }).IsTuple l (intItems xs) := by
    obtain ⟨o, h1, h2, n, h3⟩ := ht2
    exact ⟨o, h1, h2, n, h3⟩
  refine ⟨_, _, _, _, _, _, numAt xs, rfl, PySem.Walks.tuple (A := A.in1) hh _ l (Nat.ne_of_lt hlt) (intItems xs), ⟨⟨_, Heap.get?_push_size _ rfl, rfl, rfl⟩, hT⟩, (fun b hb => ?_), (fun _ _ => intItems_at), fun h' tk t' hk => ?_⟩
  · show b < (s.heap.push _).objs.size
    rw [Heap.size_push]
    rcases List.mem_cons.mp hb with rfl | hb
    · exact Nat.lt_succ_self _
    · rcases List.mem_cons.mp hb with rfl | hb
      · exact Nat.lt_succ_of_lt hlt
      · cases hb
  · have z := h h' tk t' (fun b o e => hk b o (by simp only [List.mem_cons, List.not_mem_nil, or_false]; exact Nat.ne_of_lt (Heap.lt_size e)) (Heap.get?_push_of_some _ e))
    rw [← hn] at z
    have y : Q (.int (preSum (numAt xs) xs.size) t') { s with heap := h', toks := tk } := by
      rw [preSum_eq, List.take_of_length_le (by simp)]
      exact z
    simpa [intItems] using y
end
section
variable {X : Cx}
def rSumT (K : PySem.W.Frag) : List V → Hp → VK → Prop := fun vs H Q => ∃ (a : Addr) (ns : List Int), vs = [V.ref a] ∧ SqT K H a (ns.map V.int) ∧ Q (.int ns.sum) H
theorem cr_sumT (hc : X.calm = true) : CallR X (.builtin "sum") (rSumT X.K) := by
  intro pins s σ H vs us Q I r h
  obtain ⟨a, ns, rfl, hs, q⟩ := h
  obtain ⟨its, rv, ht, _⟩ := I.tuple hs
  rw [Vals.ref1 r]
  exact sum_rawT (I.ok.hd hc) ht rv.ints fun h' tk t' hk => ⟨.int _, H, I.kept hk, ⟨_, rfl⟩, q⟩
end
end L2
namespace L2
open PySem PySem.Spec PyProof.Rows
/-- a comprehension whose element only makes new things -/
theorem lc_same {J : It} {n j : Nat} {G : Hp → Prop} {Yv : Nat → V → Prop} {te : TE} {vs : List Nat} {σ : St} {H1 : Hp} {D : Addr} {Qd : Hp → Prop} (w : Walk J n G (fun i H x H' => H' = H ∧ Yv i x)) (ys : List V) (hn : ys.length = n) (hz : n ≤ sizeLine) (hD : H1 D = none)
    (hG : ∀ H', Same H1 H' → G H') (hw : ∀ x, wipe ((wipe σ vs).set j (some x)) vs = wipe σ vs)
    (hs : ∀ (i : Nat) (x : V) (H' : Hp) (Q : VK), i < n → Yv i x → Same H1 H' → (∀ y H'', ys[i]? = some y → Same H' H'' → Q y H'') → te ((wipe σ vs).set j (some x)) H' Q)
    (hd : ∀ H', Same H1 H' → H' D = some (.lst ys) → Qd H') :
    ∃ W : Nat → Nat → Hp → Prop, (∃ m, W 0 m (upd H1 D (.lst []))) ∧ ∀ i m H, W i m H →
      (J.stop i H ∧ Qd H) ∨ (J.go i H ∧ ∃ Nx : Hp → Prop, (∀ H', Nx H' → ∃ m', m' < m ∧ W (i + 1) m' H') ∧ ∀ x H', J.yld i H x H' → gName j x (wipe σ vs) H' fun σ2 H2 => wipe σ2 vs = wipe σ vs ∧ tYes σ2 H2 fun b H3 =>
        if b = true then te σ2 H3 fun y H4 => ∃ acc, H4 D = some (.lst acc) ∧ acc.length < sizeLine ∧ Nx (upd H4 D (.lst (acc ++ [y]))) else Nx H3) := by
  refine lc_it w (fun i H => Same H1 H ∧ H D = some (.lst (ys.take i))) ⟨Same.new' hD, upd_same⟩ (fun i H _ e => hG H e.1) ?_ (fun H e => ?_)
  · rintro i x H H' hi ⟨sH, hH⟩ ⟨rfl, hy⟩
    refine ⟨hw x, ?_⟩
    have hlt : i < ys.length := by rw [hn]; exact hi
    refine hs i x _ _ hi hy sH fun y H'' ey s2 => ⟨ys.take i, s2 _ _ hH, ?_, (sH.trans s2).mut hD, ?_⟩
    · rw [List.length_take]
      exact Nat.lt_of_lt_of_le (Nat.lt_of_le_of_lt (Nat.min_le_left _ _) hi) hz
    · rw [upd_same, take_snoc ey]
  · obtain ⟨sH, hH⟩ := e
    rw [← hn, List.take_length] at hH
    exact hd H sH hH
end L2
namespace L2
open PySem PySem.Spec PyProof.Rows
/-- a dict comprehension over any walk -/
theorem dc_it {J : It} {n : Nat} {G : Hp → Prop} {Y : Nat → Hp → V → Hp → Prop} (w : Walk J n G Y) {g : TG} {tt : TT} {tk tv : TE} {vs : List Nat} {σ : St} {H1 : Hp} {D : Addr} {Qd : Hp → Prop} (Pv : Nat → Hp → Prop) (h0 : Pv 0 (upd H1 D (.dK []))) (hG : ∀ i H, i ≤ n → Pv i H → G H)
    (hs : ∀ i x H H', i < n → Pv i H → Y i H x H' → g x (wipe σ vs) H' fun σ2 H2 => wipe σ2 vs = wipe σ vs ∧ tt σ2 H2 fun b H3 =>
      if b = true then tk σ2 H3 fun y H4 => tv σ2 H4 fun z H5 => ∃ kvs k, y = kV k ∧ H5 D = some (.dK kvs) ∧ kvs.length < sizeLine ∧ Pv (i + 1) (upd H5 D (.dK (putK kvs k z))) else Pv (i + 1) H3) (hd : ∀ H, Pv n H → Qd H) :
    ∃ W : Nat → Nat → Hp → Prop, (∃ m, W 0 m (upd H1 D (.dK []))) ∧ ∀ i m H, W i m H →
      (J.stop i H ∧ Qd H) ∨ (J.go i H ∧ ∃ Nx : Hp → Prop, (∀ H', Nx H' → ∃ m', m' < m ∧ W (i + 1) m' H') ∧ ∀ x H', J.yld i H x H' → g x (wipe σ vs) H' fun σ2 H2 => wipe σ2 vs = wipe σ vs ∧ tt σ2 H2 fun b H3 =>
        if b = true then tk σ2 H3 fun y H4 => tv σ2 H4 fun z H5 => ∃ kvs k, y = kV k ∧ H5 D = some (.dK kvs) ∧ kvs.length < sizeLine ∧ Nx (upd H5 D (.dK (putK kvs k z))) else Nx H3) := by
  refine ⟨fun i m H => m = n - i ∧ i ≤ n ∧ Pv i H, ⟨n, by simp, Nat.zero_le _, h0⟩, ?_⟩
  rintro i m H ⟨rfl, hi, p⟩
  have q := hG i H hi p
  by_cases hlt : i < n
  · refine .inr ⟨w.goes i H hlt q, Pv (i + 1), fun H' p' => ⟨n - (i + 1), by omega, rfl, hlt, p'⟩, fun x H' y => hs i x H H' hlt p (w.yields i H x H' hlt q y)⟩
  · have e : i = n := by omega
    subst e
    exact .inl ⟨w.stops H q, hd H p⟩
end L2
namespace L2
open PySem PySem.Spec PyProof.Rows
/-! ### raising own errors over any base -/
structure ETx (prog : Program) (K : PySem.W.Frag) (mg : Str → Option Value) (nm : Str) (C fI : Addr) (B newId initId : String) (bm : List Value) : Prop where
  c : PySem.MEX.ECls prog K mg nm C fI B newId initId bm
  tyC : PySem.W.typeIn K (.ref C) = some (.type "type")
  te : PySem.W.exmOne K (.ref C) (.ref C) = some true
theorem ETx.xf {prog : Program} {K : PySem.W.Frag} {mg : Str → Option Value} {nm : Str} {C fI : Addr} {B newId initId : String} {bm : List Value} (T : ETx prog K mg nm C fI B newId initId bm) : XfC K C := ⟨T.c.ga, T.c.gg, T.c.exC, T.c.hdC⟩
section
variable {X : Cx} {nm : Str} {C fI : Addr} {B newId initId : String} {bm : List Value}
/-- nm(e, ..) to be raised -/
def tMkR (C : Addr) (n : Nat) (gv : List V → List (Str × V)) (ta : TA) : St → Hp → XK → Prop := fun σ H Q => ta σ H fun vs H1 => vs.length = n ∧ ∀ d, H1 d = none → Q (.ref C) (some d) (upd H1 d (.xd (gv vs)))
theorem pmk_e {a : Expr} {as : List Expr} {ta : TA} {p pos : Pos} {n : Nat} {gv : List V → List (Str × V)} (T : ETx X.prog X.K X.mg nm C fI B newId initId bm)
    (M : ∀ (s : Shared) (us : List Value) (vs : List V) (R : Result → Shared → Prop), X.K.In s.heap → s.heap.NoLimit → s.heap.Ns mainGlobals X.mg → (∃ mb, s.heap.Ns builtinsNs mb ∧ ∀ x : Str, x ≠ "__name__" → mb x = bootBuiltins x) → Vals vs us → vs.length = n →
      ∃ fu, fu ≠ [] ∧ RelF (gv vs) fu ∧ ((∀ h' tk e d, PySem.MEX.MadeN fu s.heap h' e C d → R (.ok (.ret (.ref e))) { s with heap := h', toks := tk }) → codeAny (model X.prog X.w) X.A (.call (.ref C) ⟨us, []⟩) R s))
    (ha : PA X (a :: as) ta) (hg : Gl X nm := by rfl) (hd : (nm == ("__debug__" : Str)) = false := by decide)
    (he : starEach (a :: as) X.env = (false, eval a X.env) :: starEach as X.env := by rfl) (hpl : (backTo pos (starEach as X.env)).any (·.1) = false := by rfl) :
    PMk X (.Call (.Name nm p) (a :: as) [] pos) (tMkR C n gv ta) := by
  intro pins s σ H Q I h
  refine wpAny_Call_Name_kw (ld_glob I hg T.c.gC ?_ hd)
  refine PySem.W.callWith_K (h₀ := X.base) I.ok.mod.kin T.c.kC (thn (ha.run pos pins s σ H _ I h) fun us s1 hh => ?_) he hpl
  obtain ⟨vs, H1, I1, r1, hn, q1⟩ := hh
  refine ⟨I1.kIn, ?_⟩
  show wpAny _ _ (call (.ref C) us) _ _ _
  have hlim := I1.nolimit
  have hG : s1.heap.Ns mainGlobals X.mg := I1.ok.mod.glob.keeps I1.bk
  have hB : ∃ mb, s1.heap.Ns builtinsNs mb ∧ ∀ x : Str, x ≠ "__name__" → mb x = bootBuiltins x := let ⟨mb, b1, b2⟩ := I1.ok.mod.blt; ⟨mb, b1.keeps I1.bk, b2⟩
  obtain ⟨hp, g, dr, tk, os⟩ := s1
  refine wpAny_call ?_
  obtain ⟨fu, hfu, rf, hc⟩ := M ⟨hp, g, dr, tk, os⟩ us vs (fun r s' => match r with
    | .ok (.ret v) => MkP X pins σ Q v s'
    | .ok _ => False
    | .error e => X.xe e s') I1.kIn hlim hG hB r1 hn
  refine codeAny_mono (hc fun h' tk' e d Mm => ?_) fun r s' z => ?_
  · show MkP X pins σ Q (.ref e) ⟨h', g, dr, tk', os⟩
    obtain ⟨t1, hoe⟩ := Mm.obj
    have hd := Mm.dict
    cases d with
    | none => exact absurd hd hfu
    | some d =>
      obtain ⟨dbig, dne, hns⟩ := hd
      obtain ⟨G', g1, g2⟩ := restrict h' fun b => decide (b ≠ e)
      have gk : ∀ b, b ≠ e → G'.get? b = h'.get? b := fun b hb => g1 b (decide_eq_true hb)
      have ge : G'.get? e = none := g2 e (by simp)
      have old : ∀ b o, hp.get? b = some o → G'.get? b = some o := fun b o q => (gk b (Nat.ne_of_lt (Nat.lt_of_lt_of_le (Heap.lt_size q) Mm.new))).trans (Mm.keep b o q)
      have ob : ObjOk X.prog X.w (upd H1 d (.xd (gv vs))) G' d (.xd (gv vs)) := ⟨_, hns.at (fun o q => (gk d dne).trans q), fun g => rf.look g⟩
      have J : Inv X pins σ (upd H1 d (.xd (gv vs))) ⟨G', g, dr, tk', os⟩ := I1.laid (t' := tk') old dbig ob
      refine ⟨e, _, _, ⟨G', g, dr, tk', os⟩, _, .ref C, some d, rfl, J, fun b o q => ?_, ge, hoe, ⟨rfl, rfl⟩, rfl, rfl, ?_, rfl, I1.bare, raises_own T.c.exC T.tyC, q1 d (I1.hok.fresh dbig)⟩
      · by_cases hb : b = e
        · have q' : G'.get? b = some o := q
          rw [hb, ge] at q'; cases q'
        · exact (gk b hb).symm.trans q
      · rw [upd_ne (Ne.symm dne)]
        exact I1.hok.fresh Mm.new
  · rcases r with e | (v | _ | _ | _) <;> exact z
theorem pmk_e1 {a : Expr} {ta : TA} {p pos : Pos} {k : Nat} {f1 : Str} (T : ETx X.prog X.K X.mg nm C fI B newId initId bm) (G : PySem.MEX.EFn1 X.prog X.K C fI f1) (hr : Room k X.A) (ha : PA X [a] ta) (hg : Gl X nm := by rfl) (hd : (nm == ("__debug__" : Str)) = false := by decide)
    (he : starEach [a] X.env = (false, eval a X.env) :: starEach [] X.env := by rfl) (hpl : (backTo pos (starEach [] X.env)).any (·.1) = false := by rfl) :
    PMk X (.Call (.Name nm p) [a] [] pos) (tMkR C 1 (fun vs => [(f1, vs.getD 0 .non)]) ta) := by
  refine pmk_e T (fun s us vs R hK hl hG hB r hn => ?_) ha hg hd he hpl
  match vs, hn with
  | [v], _ =>
    cases r with
    | cons rv rn =>
      cases rn
      rename_i u
      exact ⟨[(f1, u)], by simp, .cons rv .nil, fun hq => PySem.MEX.made1 T.c G (v1 := u) (fun x => fun qual p0 p1 body doc pm an cd ct cc => G.fok.bp qual p0 p1 body doc pm an cd ct cc x u) (by show 1 ≤ sizeLine; decide) hK hl (by have := hr.dp; omega) hG hB hq⟩
theorem pmk_e2 {a b : Expr} {ta : TA} {p pos : Pos} {k : Nat} {f1 f2 : Str} (T : ETx X.prog X.K X.mg nm C fI B newId initId bm) (G : PySem.MEX.EFn2 X.prog X.K C fI f1 f2) (hr : Room k X.A) (ha : PA X [a, b] ta) (hg : Gl X nm := by rfl) (hd : (nm == ("__debug__" : Str)) = false := by decide)
    (he : starEach [a, b] X.env = (false, eval a X.env) :: starEach [b] X.env := by rfl) (hpl : (backTo pos (starEach [b] X.env)).any (·.1) = false := by rfl) :
    PMk X (.Call (.Name nm p) [a, b] [] pos) (tMkR C 2 (fun vs => [(f2, vs.getD 1 .non), (f1, vs.getD 0 .non)]) ta) := by
  refine pmk_e T (fun s us vs R hK hl hG hB r hn => ?_) ha hg hd he hpl
  match vs, hn with
  | [v, v'], _ =>
    cases r with
    | cons rv rn =>
      cases rn with
      | cons rv' rn =>
        cases rn
        rename_i u u'
        exact ⟨[(f2, u'), (f1, u)], by simp, .cons rv' (.cons rv .nil), fun hq => PySem.MEX.made2 T.c G (v1 := u) (v2 := u') (fun x => fun qual p0 p1 p2 body doc pm an cd ct cc => G.fok.bp qual p0 p1 p2 body doc pm an cd ct cc x u u') (by show 2 ≤ sizeLine; decide) hK hl (by have := hr.dp; omega) hG hB hq⟩
/-- raise nm(e, ..) -/
def tRaiseE (C : Addr) (n : Nat) (gv : List V → List (Str × V)) (W : WX) (ta : TA) : TS := fun _ σ H => tMkR C n gv ta σ H fun cls d H' => W cls d σ H'
theorem ps_raiseE1 {a : Expr} {ta : TA} {W : WX} {p pos pos2 : Pos} {k : Nat} {f1 : Str} (hc : X.calm = true) (T : ETx X.prog X.K X.mg nm C fI B newId initId bm) (G : PySem.MEX.EFn1 X.prog X.K C fI f1) (hr : Room k X.A) (tk : Takes X W) (ha : PA X [a] ta) (hg : Gl X nm := by rfl) (hd : (nm == ("__debug__" : Str)) = false := by decide)
    (he : starEach [a] X.env = (false, eval a X.env) :: starEach [] X.env := by rfl) (hpl : (backTo pos (starEach [] X.env)).any (·.1) = false := by rfl) :
    PS X (.Raise (some (.Call (.Name nm p) [a] [] pos)) none pos2) (tRaiseE C 1 (fun vs => [(f1, vs.getD 0 .non)]) W ta) := ps_raise hc tk (pmk_e1 T G hr ha hg hd he hpl)
theorem ps_raiseE2 {a b : Expr} {ta : TA} {W : WX} {p pos pos2 : Pos} {k : Nat} {f1 f2 : Str} (hc : X.calm = true) (T : ETx X.prog X.K X.mg nm C fI B newId initId bm) (G : PySem.MEX.EFn2 X.prog X.K C fI f1 f2) (hr : Room k X.A) (tk : Takes X W) (ha : PA X [a, b] ta) (hg : Gl X nm := by rfl) (hd : (nm == ("__debug__" : Str)) = false := by decide)
    (he : starEach [a, b] X.env = (false, eval a X.env) :: starEach [b] X.env := by rfl) (hpl : (backTo pos (starEach [b] X.env)).any (·.1) = false := by rfl) :
    PS X (.Raise (some (.Call (.Name nm p) [a, b] [] pos)) none pos2) (tRaiseE C 2 (fun vs => [(f2, vs.getD 1 .non), (f1, vs.getD 0 .non)]) W ta) := ps_raise hc tk (pmk_e2 T G hr ha hg hd he hpl)
end
end L2
namespace K07
open PySem PySem.Spec PyProof.Rows L2
def top (i : Nat) : Stmt := PySem.Challenge.pw_mostcalls_k07_parts_refused.main.body.getD i (.Pass ⟨0, 0, 0, 0⟩)
abbrev s_is_integer : Stmt := top 12
abbrev s_is_between : Stmt := top 13
abbrev s_is_name : Stmt := top 14
abbrev s_is_ending : Stmt := top 36
abbrev s_are_pauses : Stmt := top 37
abbrev s_wrong_field : Stmt := top 38
abbrev s_Policy_init : Stmt := inClass (top 39) 0
abbrev FnP (K : PySem.W.Frag) (x : Str) (st : Stmt) (f : Addr) (fd : FuncData) : Prop := FunD K x x (defArgs st) (defBody st) (defScope st) [] [] f fd
/-- the built-in names that the module leaves alone -/
structure Blt (mg : Str → Option Value) : Prop where
  isi : mg "isinstance" = none
  int : mg "int" = none
  bool : mg "bool" = none
  str : mg "str" = none
  tuple : mg "tuple" = none
  len : mg "len" = none
  all : mg "all" = none
  mxl : ∃ t, mg "MAX_LETTERS" = some (.int 8 t)
  mxp : ∃ t, mg "MAX_PAUSE" = some (.int 8 t)
  mxt : ∃ t, mg "MAX_TRIES" = some (.int 3 t)
  mxm : ∃ t, mg "MAX_LIMIT" = some (.int 20 t)
  mxd : ∃ t, mg "MAX_DELAY" = some (.int 20 t)
  go : ∃ t, mg "GO" = some (.str "go" t)
  stop : ∃ t, mg "STOP" = some (.str "stop" t)
  dead : ∃ t, mg "DEADLINE" = some (.str "deadline" t)
  let_ : ∃ t, mg "LETTERS" = some (.str "abcdefghijklmnopqrstuvwxyz" t)
/-! ### the mirrors -/
def isInt (d : PyData) : Bool := isA d "int" && !isA d "bool"
def isBetw (d : PyData) (lo hi : Int) : Bool := match d with
  | .int i => decide (lo ≤ i) && decide (i ≤ hi)
  | _ => false
theorem isInt_eq : ∀ d : PyData, isInt d = (match d with | .int _ => true | _ => false) := by
  intro d
  unfold isInt isA
  cases d <;> (unfold tyD; dsimp only; decide +kernel)
def isLow (c : Nat) : Bool := decide (c ∈ ("abcdefghijklmnopqrstuvwxyz" : Str).cps.toList)
def isName (d : PyData) : Bool := match d with
  | .str x => decide (1 ≤ x.length) && (decide (x.length ≤ 8) && x.cps.toList.all isLow)
  | _ => false
def isEnding (d : PyData) : Bool := match d with
  | .tuple [.str w] => w == "go" || w == "deadline"
  | .tuple [.str w, e] => w == "stop" && isBetw e 0 20
  | _ => false
def arePauses (d : PyData) (n : Int) : Bool := match d with
  | .tuple ds => decide ((ds.length : Int) = n - 1) && ds.all fun e => isBetw e 0 8
  | _ => false
def notN : PyData → Bool | .none => false | _ => true
def intOf : PyData → Int | .int i => i | _ => 0
def ltTwo : PyData → Bool | .int i => decide (i < 2) | _ => true
def wrongField (dl dt dp de dy dn : PyData) : Option Str :=
  cond (isBetw dl 1 20) (cond (isBetw dt 1 3) (cond (notN dp && (notN de || !arePauses dp (intOf dt))) (some "pauses")
    (cond (notN de && (ltTwo dt || !isBetw de 1 20)) (some "early") (cond (isBoolD dy) (cond (isEnding dn) none (some "ending")) (some "lossy")))) (some "tries")) (some "limit")
def oStr : Option Str → V | none => .non | some x => .str x
/-! ### the promises -/
def spPauses (K : PySem.W.Frag) : Sp := fun vs H Q _ => ∃ (v : V) (d : PyData) (n : Int), vs = [v, .int n] ∧ n ≤ 100 ∧ Dq K H v d ∧ ∀ H', Same H H' → Q (.bl (arePauses d n)) H'
def spWrong (K : PySem.W.Frag) : Sp := fun vs H Q _ => ∃ (v0 v1 v2 v3 v4 v5 : V) (d0 d1 d2 d3 d4 d5 : PyData), vs = [v0, v1, v2, v3, v4, v5] ∧ Dq K H v0 d0 ∧ Dq K H v1 d1 ∧ Dq K H v2 d2 ∧ Dq K H v3 d3 ∧ Dq K H v4 d4 ∧ Dq K H v5 d5 ∧
  ∀ H', Same H H' → Q (oStr (wrongField d0 d1 d2 d3 d4 d5)) H'
def spEnding (K : PySem.W.Frag) : Sp := fun vs H Q _ => ∃ (v : V) (d : PyData), vs = [v] ∧ Dq K H v d ∧ ∀ H', Same H H' → Q (.bl (isEnding d)) H'
def spInt (K : PySem.W.Frag) : Sp := fun vs H Q _ => ∃ (v : V) (d : PyData), vs = [v] ∧ Dq K H v d ∧ Q (.bl (isInt d)) H
def spBetw (K : PySem.W.Frag) : Sp := fun vs H Q _ => ∃ (v : V) (d : PyData) (lo hi : Int), vs = [v, .int lo, .int hi] ∧ Dq K H v d ∧ Q (.bl (isBetw d lo hi)) H
def spName (K : PySem.W.Frag) : Sp := fun vs H Q _ => ∃ (v : V) (d : PyData), vs = [v] ∧ Dq K H v d ∧ ∀ H', Same H H' → Q (.bl (isName d)) H'
section
variable {P : Program} {w : World} {K : PySem.W.Frag} {mg : Str → Option Value} {base : Heap} {f g : Addr} {fd gd : FuncData} {CX : CXT}
theorem sc_is_integer : FnScope ["value"] ["value"] (defScope s_is_integer) := ⟨rfl, rfl, rfl, by decide +kernel, rfl, by decide +kernel, by decide +kernel⟩
theorem ok_is_integer (F : FnP K "is_integer" s_is_integer f fd) (B : Blt mg) : FnOk P w K mg base CX0 1 f fd ["value"] (spInt K) := by
  refine F.ok sc_is_integer (fun vs H Q E h => ?_) (fun cdv A outer s H vs Q E hr h => ?_)
  · obtain ⟨v, d, rfl, _⟩ := h
    rfl
  · obtain ⟨v, d, rfl, hd, q⟩ := h
    refine ⟨_, pss_one (ps_ret (pe_and (pe_callB call_isD (by rfl) B.isi boot_isinstance (pa_cons (pv 0) (pa_cons (pe_bltn (v := .ty "int") (by rfl) B.int (by decide +kernel) rfl) pa_nil)))
      (pe_one (pe_not (pe_callB call_isD (by rfl) B.isi boot_isinstance (pa_cons (pv 0) (pa_cons (pe_bltn (v := .ty "bool") (by rfl) B.bool (by decide +kernel) rfl) pa_nil))))))), ?_⟩
    refine ⟨_, rfl, v, d, "int", rfl, hd, tok_int, _, rfl, ?_⟩
    unfold isInt at q
    cases e : isA d "int" with
    | true =>
      rw [e] at q
      exact iteT ⟨_, rfl, v, d, "bool", rfl, hd, tok_bool, _, rfl, q⟩
    | false =>
      rw [e] at q
      exact iteF q
theorem sc_is_between : FnScope ["value", "low", "high"] ["value", "low", "high"] (defScope s_is_between) := ⟨rfl, rfl, rfl, by decide +kernel, rfl, by decide +kernel, by decide +kernel⟩
theorem ok_is_between (F : FnP K "is_between" s_is_between f fd) (G : FnP K "is_integer" s_is_integer g gd) (gg : mg "is_integer" = some (.ref g)) (B : Blt mg) : FnOk P w K mg base CX0 2 f fd ["value", "low", "high"] (spBetw K) := by
  have b : Binds K gd ["value"] [] := G.bindsN fun _ _ _ _ _ _ us hl => match us, hl with | [_], _ => rfl
  refine F.ok sc_is_between (fun vs H Q E h => ?_) (fun cdv A outer s H vs Q E hr h => ?_)
  · obtain ⟨v, d, lo, hi, rfl, _⟩ := h
    rfl
  · obtain ⟨v, d, lo, hi, rfl, hd, q⟩ := h
    refine ⟨_, pss_one (ps_ret (pe_and (pe_call (ok_is_integer G B) hr rfl gg G.kp b .nil pass0 (pa_cons (pv 0) pa_nil))
      (pe_one (pe_chain op_le op_le (pv 1) (pv 0) (pv 2))))), ?_⟩
    refine ⟨_, rfl, v, d, rfl, hd, _, rfl, ?_⟩
    rw [isInt_eq]
    cases hd with
    | int i =>
      refine iteT ⟨_, rfl, _, rfl, _, _, rfl, rfl, _, rfl, ?_⟩
      have q' : Q (.bl (decide (lo ≤ i) && decide (i ≤ hi))) H := q
      cases e : decide (lo ≤ i) with
      | true =>
        rw [e] at q'
        exact iteT ⟨_, rfl, _, _, rfl, rfl, q'⟩
      | false =>
        rw [e] at q'
        exact iteF q'
    | _ => exact iteF q
theorem sc_is_name : FnScope ["value", "sign"] ["value"] (defScope s_is_name) := ⟨rfl, rfl, rfl, by decide +kernel, rfl, by decide +kernel, by decide +kernel⟩
theorem ok_is_name (F : FnP K "is_name" s_is_name f fd) (B : Blt mg) : FnOk P w K mg base CX0 1 f fd ["value"] (spName K) := by
  obtain ⟨tl, gl⟩ := B.let_
  obtain ⟨tm, gm⟩ := B.mxl
  refine F.ok sc_is_name (fun vs H Q E h => ?_) (fun cdv A outer s H vs Q E hr h => ?_)
  · obtain ⟨v, d, rfl, _⟩ := h
    rfl
  · obtain ⟨v, d, rfl, hd, q⟩ := h
    refine ⟨_, pss_cons (ps_if (PW.pt (pw_or (pt_not (pt_val (pe_callB call_isD (by rfl) B.isi boot_isinstance (pa_cons (pv 0) (pa_cons (pe_bltn (v := .ty "str") (by rfl) B.str (by decide +kernel) rfl) pa_nil)))))
        (pw_or1 (pt_not (pt_chain op_le op_le pe_int (pe_callB call_len_str (by rfl) B.len PySem.boot_len (pa_cons (pv 0) pa_nil)) (pe_glob (v := .int 8) rfl gm ⟨_, rfl⟩))))))
        (pss_one (ps_ret pe_bl)) pss_nil)
      (pss_one (ps_ret (pe_callB (cr_all rfl) (by rfl) B.all boot_all (pa_cons (pe_lc (own := [("sign", 1)]) (g := gName 1) (tt := tYes) rfl sc_is_name.nd (pi_str (pv 0)) (blkOk_by (N := ["value", "sign"]) (sc := defScope s_is_name) (by decide +kernel))
        (fun _ _ _ _ _ => pg_name (i := 1) sc_is_name.nd rfl (Or.inl rfl)) (fun _ _ _ _ _ => pts_nil)
        (fun _ _ _ _ _ => pe_cmpR op_inS (pv 1) (pe_glob (v := .str "abcdefghijklmnopqrstuvwxyz") rfl gl ⟨_, rfl⟩) rfl)) pa_nil)))), ?_⟩
    refine ⟨_, rfl, v, d, "str", rfl, hd, tok_str, _, rfl, ?_⟩
    cases hd with
    | str x hx =>
      refine iteF ⟨_, rfl, x, rfl, hx, _, _, rfl, rfl, _, rfl, ?_⟩
      have q' : ∀ H', Same H H' → Q (.bl (decide (1 ≤ x.length) && (decide (x.length ≤ 8) && x.cps.toList.all isLow))) H' := q
      by_cases h1 : 1 ≤ x.length
      · rw [decide_eq_true h1] at q'
        refine iteY (by omega) ⟨_, _, rfl, rfl, _, rfl, ?_⟩
        by_cases h2 : x.length ≤ 8
        · rw [decide_eq_true h2] at q'
          refine iteNY (by omega) ?_
          refine ⟨_, rfl, x, rfl, fun D hD => ?_⟩
          refine lc_map walk_str (x.cps.toList.map fun c => V.bl (isLow c)) (by simp) hx (fun _ => trivial) (fun _ => rfl) (fun i y acc Q' hi hy k => ?_) ?_
          · obtain ⟨c, hc, rfl⟩ := hy
            refine ⟨_, rfl, c, _, rfl, rfl, k _ ?_⟩
            rw [List.getElem?_map]
            have : x.cps.toList[i]? = some c := by simpa using hc
            rw [this]
            rfl
          · refine ⟨D, x.cps.toList.map isLow, rfl, SqL.of (by rw [upd_same, List.map_map]; rfl), ?_⟩
            have z := q' (upd H D (.lst (x.cps.toList.map fun c => V.bl (isLow c)))) fun b o e => by rw [upd_ne (ne_of_none e hD)]; exact e
            have e : (x.cps.toList.map isLow).all id = x.cps.toList.all isLow := by rw [List.all_map]; rfl
            rw [e]
            exact z
        · rw [decide_eq_false h2] at q'
          exact iteNN (by omega) (q' H (Same.refl H))
      · rw [decide_eq_false h1] at q'
        exact iteN (by omega) ⟨_, rfl, q' H (Same.refl H)⟩
    | _ => exact iteT (q H (Same.refl H))
theorem Same.new {H : Hp} {p : Addr} {o : HO} (h : H p = none) : Same H (upd H p o) := fun b u e => by rw [upd_ne (ne_of_none e h)]; exact e
theorem sc_is_ending : FnScope ["value", "word", "delay"] ["value"] (defScope s_is_ending) := ⟨rfl, rfl, rfl, by decide +kernel, rfl, by decide +kernel, by decide +kernel⟩
theorem ok_is_ending (F : FnP K "is_ending" s_is_ending f fd) {g' : Addr} {gd' : FuncData} (G' : FnP K "is_integer" s_is_integer g' gd') (gg' : mg "is_integer" = some (.ref g')) (G : FnP K "is_between" s_is_between g gd) (gg : mg "is_between" = some (.ref g)) (B : Blt mg) : FnOk P w K mg base CX0 3 f fd ["value"] (spEnding K) := by
  obtain ⟨t1, g1⟩ := B.go
  obtain ⟨t2, g2⟩ := B.stop
  obtain ⟨t3, g3⟩ := B.dead
  obtain ⟨t4, g4⟩ := B.mxd
  have b : Binds K gd ["value", "low", "high"] [] := G.bindsN fun _ _ _ _ _ _ us hl => match us, hl with | [_, _, _], _ => rfl
  refine F.ok sc_is_ending (fun vs H Q E h => ?_) (fun cdv A outer s H vs Q E hr h => ?_)
  · obtain ⟨v, d, rfl, _⟩ := h
    rfl
  · obtain ⟨v, d, rfl, hd, q⟩ := h
    refine ⟨_, pss_one (ps_match (pv 0) (pm_seq1 (i := 1) rfl sc_is_ending.nd rfl rfl
        (pss_one (ps_ret (pe_and (pe_callB call_isD (by rfl) B.isi boot_isinstance (pa_cons (pv 0) (pa_cons (pe_bltn (v := .ty "tuple") (by rfl) B.tuple (by decide +kernel) rfl) pa_nil)))
          (pe_and (pe_callB call_isD (by rfl) B.isi boot_isinstance (pa_cons (pv 1) (pa_cons (pe_bltn (v := .ty "str") (by rfl) B.str (by decide +kernel) rfl) pa_nil)))
            (pe_one (pe_cmpR op_in_seq (pv 1) (pe_tup (pa_cons (pe_glob (v := .str "go") rfl g1 ⟨_, rfl⟩) (pa_cons (pe_glob (v := .str "deadline") rfl g3 ⟨_, rfl⟩) pa_nil))) (by rfl)))))))
      (pm_seq2 (i := 1) (j := 2) rfl sc_is_ending.nd rfl rfl rfl rfl
        (pss_cons (ps_if (PW.pt (pw_or (pt_not (pt_val (pe_callB call_isD (by rfl) B.isi boot_isinstance (pa_cons (pv 0) (pa_cons (pe_bltn (v := .ty "tuple") (by rfl) B.tuple (by decide +kernel) rfl) pa_nil)))))
            (pw_or1 (pt_not (pt_val (pe_callB call_isD (by rfl) B.isi boot_isinstance (pa_cons (pv 1) (pa_cons (pe_bltn (v := .ty "str") (by rfl) B.str (by decide +kernel) rfl) pa_nil))))))))
            (pss_one (ps_ret pe_bl)) pss_nil)
          (pss_one (ps_ret (pe_and (pe_cmpR op_eq (pv 1) (pe_glob (v := .str "stop") rfl g2 ⟨_, rfl⟩) (nomark _))
            (pe_one (pe_call (ok_is_between G G' gg' B) hr rfl gg G.kp b .nil pass0 (pa_cons (pv 2) (pa_cons pe_int (pa_cons (pe_glob (v := .int 20) rfl g4 ⟨_, rfl⟩) pa_nil)))))))))
      (pm_any (pss_one (ps_ret pe_bl)))))), ?_⟩
    refine ⟨_, rfl, d, hd, ?_, ?_⟩
    · intro a xs ds ev hs ha hl y ey
      subst ey
      cases ha with
      | @cons _ _ d1 _ hy hn =>
      cases hn
      refine ⟨_, rfl, v, d, "tuple", rfl, hd, tok_tuple, _, rfl, ?_⟩
      rw [isA_tuple]
      rcases hs with ⟨rfl, hs⟩ | ⟨rfl, hs⟩
      · refine iteT ⟨_, rfl, y, d1, "str", rfl, hy, tok_str, _, rfl, ?_⟩
        rw [isA_str]
        cases hy with
        | str x hx =>
          refine iteT ⟨_, rfl, (by show 2 ≤ sizeLine; decide), fun p hp => ⟨p, _, rfl, .inr (SqT.of upd_same), rfl, rfl, ?_⟩⟩
          have z := q _ (Same.new (o := .tup [.str "go", .str "deadline"]) hp)
          have e : isEnding (.tuple [.str x]) = inV (.str x) [.str "go", .str "deadline"] := by
            show (x == "go" || x == "deadline") = ((("go" : Str) == x) || ((("deadline" : Str) == x) || false))
            rw [Bool.or_false, Bool.beq_comm (a := x), Bool.beq_comm (a := x)]
          rw [e] at z
          exact z
        | _ => exact iteF (q H (Same.refl H))
      · exact iteF (q H (Same.refl H))
    · intro hne
      refine ⟨d, hd, ?_, ?_⟩
      · intro a xs ds ev hs ha hl y1 y2 ey
        subst ey
        cases ha with
        | @cons _ _ d1 _ hy hn =>
        cases hn with
        | @cons _ _ d2 _ hy2 hn =>
        cases hn
        refine ⟨_, rfl, v, d, "tuple", rfl, hd, tok_tuple, _, rfl, ?_⟩
        rw [isA_tuple]
        rcases hs with ⟨rfl, hs⟩ | ⟨rfl, hs⟩
        · refine iteF ⟨_, rfl, y1, d1, "str", rfl, hy, tok_str, _, rfl, ?_⟩
          rw [isA_str]
          cases hy with
          | str x hx =>
            refine iteF ⟨_, rfl, rfl, _, rfl, ?_⟩
            have z := q H (Same.refl H)
            have z' : Q (.bl (x == "stop" && isBetw d2 0 20)) H := z
            by_cases hx2 : x = "stop"
            · subst hx2
              refine iteY rfl ⟨_, rfl, y2, d2, 0, 20, rfl, hy2, ?_⟩
              exact z'
            · have e : (x == ("stop" : Str)) = false := by simpa using hx2
              rw [e] at z'
              exact iteN (fun z => hx2 (V.str.inj z)) z'
          | _ => exact iteT (q H (Same.refl H))
        · exact iteT (q H (Same.refl H))
      · intro hne2
        have z := q H (Same.refl H)
        have e : isEnding d = false := by
          unfold isEnding
          split
          · exact absurd rfl hne
          · exact absurd rfl hne2
          · rfl
        rw [e] at z
        exact z
theorem Dq.isN {K : PySem.W.Frag} {H : Hp} {v : V} {d : PyData} (h : Dq K H v d) : (!decide (v = .non)) = notN d := by
  cases h <;> rfl
theorem sc_are_pauses : FnScope ["value", "tries", "one"] ["value", "tries"] (defScope s_are_pauses) := ⟨rfl, rfl, rfl, by decide +kernel, rfl, by decide +kernel, by decide +kernel⟩
theorem ok_are_pauses (F : FnP K "are_pauses" s_are_pauses f fd) {g' : Addr} {gd' : FuncData} (G' : FnP K "is_integer" s_is_integer g' gd') (gg' : mg "is_integer" = some (.ref g')) (G : FnP K "is_between" s_is_between g gd) (gg : mg "is_between" = some (.ref g)) (B : Blt mg) : FnOk P w K mg base CX0 3 f fd ["value", "tries"] (spPauses K) := by
  obtain ⟨t1, g1⟩ := B.mxp
  have b : Binds K gd ["value", "low", "high"] [] := G.bindsN fun _ _ _ _ _ _ us hl => match us, hl with | [_, _, _], _ => rfl
  refine F.ok sc_are_pauses (fun vs H Q E h => ?_) (fun cdv A outer s H vs Q E hr h => ?_)
  · obtain ⟨v, d, n, rfl, _⟩ := h
    rfl
  · obtain ⟨v, d, n, rfl, hn100, hd, q⟩ := h
    refine ⟨_, pss_cons (ps_if (PW.pt (pw_or (pt_not (pt_val (pe_callB call_isD (by rfl) B.isi boot_isinstance (pa_cons (pv 0) (pa_cons (pe_bltn (v := .ty "tuple") (by rfl) B.tuple (by decide +kernel) rfl) pa_nil)))))
        (pw_or1 (pt_cmpR op_ne (pe_callB call_len (by rfl) B.len PySem.boot_len (pa_cons (pv 0) pa_nil)) (pe_op op_sub (pv 1) pe_int) (nomark _)))))
        (pss_one (ps_ret pe_bl)) pss_nil)
      (pss_one (ps_ret (pe_callB (cr_all rfl) (by rfl) B.all boot_all (pa_cons (pe_lc (own := [("one", 2)]) (g := gName 2) (tt := tYes) rfl sc_are_pauses.nd (pi_tup (pv 0)) (blkOk_by (N := ["value", "tries", "one"]) (sc := defScope s_are_pauses) (by decide +kernel))
        (fun _ _ _ _ _ => pg_name (i := 2) sc_are_pauses.nd rfl (Or.inl rfl)) (fun _ _ _ _ _ => pts_nil)
        (fun _ _ _ _ _ => pe_call (ok_is_between G G' gg' B) hr rfl gg G.kp b .nil pass0 (pa_cons (pv 2) (pa_cons pe_int (pa_cons (pe_glob (v := .int 8) rfl g1 ⟨_, rfl⟩) pa_nil))))) pa_nil)))), ?_⟩
    refine ⟨_, rfl, v, d, "tuple", rfl, hd, tok_tuple, _, rfl, ?_⟩
    rw [isA_tuple]
    cases hd with
    | @tup a xs ds hs ha =>
      have el := ha.len
      have q' : ∀ H', Same H H' → Q (.bl (decide ((ds.length : Int) = n - 1) && ds.all fun e => isBetw e 0 8)) H' := q
      refine iteF ⟨_, rfl, _, xs.length, rfl, .inr ⟨_, hs, rfl⟩, _, rfl, _, _, rfl, rfl, rfl, _, rfl, ?_⟩
      by_cases hn : (ds.length : Int) = n - 1
      · rw [decide_eq_true hn] at q'
        refine iteNY (congrArg V.int (by rw [el]; exact hn)) ?_
        refine ⟨_, rfl, a, rfl, ⟨_, hs⟩, fun D hD => ?_⟩
        have hlen : xs.length ≤ sizeLine := Nat.le_trans (by omega : xs.length ≤ 100) (by decide)
        refine lc_map walk_tup (ds.map fun e => V.bl (isBetw e 0 8)) (by rw [List.length_map, el]) hlen (fun acc => SqT.upT (Same.new hD) hs) (fun _ => rfl) (fun i y acc Q' hi hy k => ?_) ?_
        · obtain ⟨e, he, hye⟩ := ha.at hy
          refine ⟨_, rfl, y, e, 0, 8, rfl, hye.up (Same.new hD), k _ ?_⟩
          rw [List.getElem?_map, he]
          rfl
        · refine ⟨D, ds.map fun e => isBetw e 0 8, rfl, SqL.of (by rw [upd_same, List.map_map]; rfl), ?_⟩
          have e : (ds.map fun e => isBetw e 0 8).all id = ds.all fun e => isBetw e 0 8 := by rw [List.all_map]; rfl
          rw [e]
          exact q' _ (Same.new hD)
      · rw [decide_eq_false hn] at q'
        exact iteNN (fun z => hn (by rw [← el]; exact V.int.inj z)) (q' H (Same.refl H))
    | _ => exact iteT (q H (Same.refl H))
end
end K07
namespace K07
open PySem PySem.Spec PyProof.Rows L2
section
variable {P : Program} {w : World} {K : PySem.W.Frag} {mg : Str → Option Value} {base : Heap} {f g : Addr} {fd gd : FuncData} {CX : CXT}
theorem isBetw_int {d : PyData} {lo hi : Int} (h : isBetw d lo hi = true) : ∃ i, d = .int i ∧ lo ≤ i ∧ i ≤ hi := by
  cases d with
  | int i =>
    have z : (decide (lo ≤ i) && decide (i ≤ hi)) = true := h
    simp only [Bool.and_eq_true, decide_eq_true_eq] at z
    exact ⟨i, rfl, z.1, z.2⟩
  | _ => cases h
theorem dq_int {K : PySem.W.Frag} {H : Hp} {v : V} {i : Int} (h : Dq K H v (.int i)) : v = .int i := by cases h; rfl
theorem dq_isN {K : PySem.W.Frag} {H : Hp} {v : V} {d : PyData} (h : Dq K H v d) : (!decide (v = .non)) = notN d := by
  cases h <;> rfl
theorem sc_wrong_field : FnScope ["limit", "tries", "pauses", "early", "lossy", "ending"] ["limit", "tries", "pauses", "early", "lossy", "ending"] (defScope s_wrong_field) := ⟨rfl, rfl, rfl, by decide +kernel, rfl, by decide +kernel, by decide +kernel⟩
theorem ok_wrong_field (F : FnP K "wrong_field" s_wrong_field f fd) {g1 g2 g3 g4 : Addr} {e1 e2 e3 e4 : FuncData} (G1 : FnP K "is_integer" s_is_integer g1 e1) (m1 : mg "is_integer" = some (.ref g1)) (G2 : FnP K "is_between" s_is_between g2 e2) (m2 : mg "is_between" = some (.ref g2))
    (G3 : FnP K "are_pauses" s_are_pauses g3 e3) (m3 : mg "are_pauses" = some (.ref g3)) (G4 : FnP K "is_ending" s_is_ending g4 e4) (m4 : mg "is_ending" = some (.ref g4)) (B : Blt mg) : FnOk P w K mg base CX0 4 f fd ["limit", "tries", "pauses", "early", "lossy", "ending"] (spWrong K) := by
  obtain ⟨t1, c1⟩ := B.mxm
  obtain ⟨t2, c2⟩ := B.mxt
  have b2 : Binds K e2 ["value", "low", "high"] [] := G2.bindsN fun _ _ _ _ _ _ us hl => match us, hl with | [_, _, _], _ => rfl
  have b3 : Binds K e3 ["value", "tries"] [] := G3.bindsN fun _ _ _ _ _ _ us hl => match us, hl with | [_, _], _ => rfl
  have b4 : Binds K e4 ["value"] [] := G4.bindsN fun _ _ _ _ _ _ us hl => match us, hl with | [_], _ => rfl
  have F2 : FnOk P w K mg base CX0 2 g2 e2 ["value", "low", "high"] (spBetw K) := ok_is_between G2 G1 m1 B
  have F3 : FnOk P w K mg base CX0 3 g3 e3 ["value", "tries"] (spPauses K) := ok_are_pauses G3 G1 m1 G2 m2 B
  have F4 : FnOk P w K mg base CX0 3 g4 e4 ["value"] (spEnding K) := ok_is_ending G4 G1 m1 G2 m2 B
  refine F.ok sc_wrong_field (fun vs H Q E h => ?_) (fun cdv A outer s H vs Q E hr h => ?_)
  · obtain ⟨_, _, _, _, _, _, _, _, _, _, _, _, rfl, _⟩ := h
    rfl
  · obtain ⟨v0, v1, v2, v3, v4, v5, d0, d1, d2, d3, d4, d5, rfl, h0, h1, h2, h3, h4, h5, q⟩ := h
    have hr2 := hr.mono (by decide : 2 ≤ 3)
    refine ⟨_, (pss_cons (ps_if (pt_not (pt_val (pe_call F2 hr2 rfl m2 G2.kp b2 .nil pass0 (pa_cons (pv 0) (pa_cons pe_int (pa_cons (pe_glob (v := .int 20) rfl c1 ⟨_, rfl⟩) pa_nil)))))) (pss_one (ps_ret pe_str)) pss_nil)
      (pss_cons (ps_if (pt_not (pt_val (pe_call F2 hr2 rfl m2 G2.kp b2 .nil pass0 (pa_cons (pv 1) (pa_cons pe_int (pa_cons (pe_glob (v := .int 3) rfl c2 ⟨_, rfl⟩) pa_nil)))))) (pss_one (ps_ret pe_str)) pss_nil)
      (pss_cons (ps_if (PW.pt (pw_and (pt_cmp (pc_notN (pv 2))) (pw_and1 (PW.pt (pw_or (pt_cmp (pc_notN (pv 3))) (pw_or1 (pt_not (pt_val (pe_call F3 hr rfl m3 G3.kp b3 .nil pass0 (pa_cons (pv 2) (pa_cons (pv 1) pa_nil))))))))))) (pss_one (ps_ret pe_str)) pss_nil)
      (pss_cons (ps_if (PW.pt (pw_and (pt_cmp (pc_notN (pv 3))) (pw_and1 (PW.pt (pw_or (pt_cmpR op_lt (pv 1) pe_int (nomark _)) (pw_or1 (pt_not (pt_val (pe_call F2 hr2 rfl m2 G2.kp b2 .nil pass0 (pa_cons (pv 3) (pa_cons pe_int (pa_cons (pe_glob (v := .int 20) rfl c1 ⟨_, rfl⟩) pa_nil)))))))))))) (pss_one (ps_ret pe_str)) pss_nil)
      (pss_cons (ps_if (pt_not (pt_val (pe_callB call_isD (by rfl) B.isi (by decide +kernel) (pa_cons (pv 4) (pa_cons (pe_bltn (v := .ty "bool") (by rfl) B.bool (by decide +kernel) rfl) pa_nil))))) (pss_one (ps_ret pe_str)) pss_nil)
      (pss_one (ps_ret (pe_ifExp (pt_val (pe_call F4 hr rfl m4 G4.kp b4 .nil pass0 (pa_cons (pv 5) pa_nil))) pe_non pe_str)))))))), ?_⟩
    unfold wrongField at q
    refine ⟨_, rfl, v0, d0, 1, 20, rfl, h0, _, rfl, ?_⟩
    cases e0 : isBetw d0 1 20 with
    | false =>
      rw [e0] at q
      exact iteT (q H (Same.refl H))
    | true =>
    rw [e0] at q
    refine iteF ⟨_, rfl, v1, d1, 1, 3, rfl, h1, _, rfl, ?_⟩
    cases e1 : isBetw d1 1 3 with
    | false =>
      rw [e1] at q
      exact iteT (q H (Same.refl H))
    | true =>
    rw [e1] at q
    obtain ⟨n, rfl, hn1, hn2⟩ := isBetw_int e1
    obtain rfl := dq_int h1
    replace q : ∀ H', Same H H' → Q (oStr (cond (notN d2 && (notN d3 || !arePauses d2 n)) (some "pauses") (cond (notN d3 && (decide (n < 2) || !isBetw d3 1 20)) (some "early") (cond (isBoolD d4) (cond (isEnding d5) none (some "ending")) (some "lossy"))))) H' := q
    refine iteF ⟨_, rfl, _, rfl, ?_⟩
    -- the last three questions, from any heap above
    have last : ∀ H1, Same H H1 → (∀ H', Same H H' → Q (oStr (cond (isBoolD d4) (cond (isEnding d5) none (some "ending")) (some "lossy"))) H') →
        tSeq (tIfS (tNot (tB (tCB (rIsD K) (tCons (tVar 4) (tCons (tC (.ty "bool")) tNil))))) (tRet (tC (.str "lossy"))) tNext)
          (tRet (tIf (tB (tCall (spEnding K) [] E0 (tCons (tVar 5) tNil))) (tC .non) (tC (.str "ending")))) { nx := fun _ H' => Q .non H', rt := Q } (start ["limit", "tries", "pauses", "early", "lossy", "ending"] [v0, .int n, v2, v3, v4, v5]) H1 := by
      intro H1 s1 q
      refine ⟨_, rfl, v4, d4, "bool", rfl, h4.up s1, tok_bool, _, rfl, ?_⟩
      rw [isA_bool]
      cases e4 : isBoolD d4 with
      | false =>
        rw [e4] at q
        exact iteT (q H1 s1)
      | true =>
      rw [e4] at q
      refine iteF ⟨_, rfl, v5, d5, rfl, h5.up s1, fun H2 s2 => ⟨_, rfl, ?_⟩⟩
      have z := q H2 (s1.trans s2)
      cases e5 : isEnding d5 with
      | true =>
        rw [e5] at z
        exact iteT z
      | false =>
        rw [e5] at z
        exact iteF z
    rw [dq_isN h2]
    cases e2 : notN d2 with
    | true =>
      refine iteT ⟨_, rfl, _, rfl, ?_⟩
      rw [dq_isN h3]
      cases e3 : notN d3 with
      | true =>
        rw [e2, e3] at q
        exact iteT (q H (Same.refl H))
      | false =>
        refine iteF ⟨_, rfl, _, rfl, v2, d2, n, rfl, by omega, h2, fun H1 s1 => ⟨_, rfl, ?_⟩⟩
        rw [e2, e3] at q
        cases ep : arePauses d2 n with
        | false =>
          rw [ep] at q
          exact iteT (q H1 s1)
        | true =>
          rw [ep] at q
          refine iteF ⟨_, rfl, _, rfl, ?_⟩
          rw [dq_isN h3, e3]
          exact iteF (last H1 s1 q)
    | false =>
      rw [e2] at q
      refine iteF ⟨_, rfl, _, rfl, ?_⟩
      rw [dq_isN h3]
      cases e3 : notN d3 with
      | false =>
        rw [e3] at q
        exact iteF (last H (Same.refl H) q)
      | true =>
        rw [e3] at q
        refine iteT ⟨_, rfl, _, _, rfl, rfl, _, rfl, ?_⟩
        by_cases hn : n < 2
        · rw [decide_eq_true hn] at q
          exact iteY hn (q H (Same.refl H))
        · rw [decide_eq_false hn] at q
          refine iteN hn ⟨_, rfl, v3, d3, 1, 20, rfl, h3, _, rfl, ?_⟩
          cases eb : isBetw d3 1 20 with
          | false =>
            rw [eb] at q
            exact iteT (q H (Same.refl H))
          | true =>
            rw [eb] at q
            exact iteF (last H (Same.refl H) q)
end
end K07
namespace K07
open PySem PySem.Spec PyProof.Rows L2
def ownPauses (n : Int) (dp de : PyData) : PyData := match dp with
  | .none => cond (notN de) (.tuple []) (.tuple (List.replicate (n - 1).toNat (.int 0)))
  | d => d
def polF : List Str := ["own_name", "own_limit", "own_tries", "own_pauses", "own_early", "own_lossy", "own_ending"]
/-- own_pauses -/
def tPau (K : PySem.W.Frag) : TE := fun σ H Q => ∃ (v2 v3 : V) (n : Int) (d2 d3 : PyData), σ[3]? = some (some (.int n)) ∧ σ[4]? = some (some v2) ∧ σ[5]? = some (some v3) ∧ 1 ≤ n ∧ n ≤ 3 ∧ Dq K H v2 d2 ∧ Dq K H v3 d3 ∧ (d2 = .none ∨ ∃ ds, d2 = .tuple ds) ∧
  ∀ vp H', Same H H' → Dq K H' vp (ownPauses n d2 d3) → Q vp H'
theorem DqA.rep {K : PySem.W.Frag} {H : Hp} {v : V} {d : PyData} (h : Dq K H v d) : ∀ n : Nat, DqA K H (List.replicate n v) (List.replicate n d)
  | 0 => .nil
  | n + 1 => .cons h (DqA.rep h n)
theorem pau_run {K : PySem.W.Frag} {σ : L2.St} {H : Hp} {Q : VK} (q : tPau K σ H Q) : tIf (tAnd (tB (tIsN (tVar 4))) (tB (tIsN (tVar 5)))) (tOp (rRep1 K) (tTup (tCons (tC (.int 0)) tNil)) (tOp rSub (tVar 3) (tC (.int 1)))) (tOrT K (tVar 4) (tTup tNil)) σ H Q := by
  obtain ⟨v2, v3, n, d2, d3, e3, e4, e5, hn1, hn2, h2, h3, hd, q⟩ := q
  have nil0 : ∀ (H' : Hp) (p : Addr), H' p = none → Same H H' → Dq K (upd H' p (.tup [])) (.ref p) (.tuple []) := fun H' p hp s => .tup (SqT.of upd_same) .nil
  refine ⟨v2, e4, _, rfl, ?_⟩
  rcases hd with rfl | ⟨ds, rfl⟩
  · cases h2
    refine iteY rfl ⟨v3, e5, _, rfl, ?_⟩
    by_cases hv : v3 = .non
    · subst hv
      cases h3
      refine iteY rfl ⟨(by show 1 ≤ sizeLine; decide), fun p hp => ⟨_, e3, _, _, rfl, rfl, p, (n - 1).toNat, .int 0, rfl, ?_, SqT.of upd_same, by omega, fun p' H' s' hT => ?_⟩⟩
      · rw [Int.toNat_of_nonneg (by omega)]
      · exact q _ _ ((Same.new' hp).trans s') (.tup hT (DqA.rep (.int 0) _))
    · have hd3 : notN d3 = true := by
        cases h3 with
        | non => exact absurd rfl hv
        | _ => rfl
      refine iteN hv ⟨_, e4, false, rfl, iteF ⟨(by show 0 ≤ sizeLine; decide), fun p hp => ?_⟩⟩
      refine q _ _ (Same.new' hp) ?_
      unfold ownPauses
      rw [hd3]
      exact nil0 H p hp (Same.refl H)
  · cases h2 with
    | @tup a xs _ hT ha =>
    refine iteN (fun z => nomatch z) (iteF ⟨_, e4, !xs.isEmpty, .inr (.inl ⟨_, hT, rfl⟩), ?_⟩)
    cases ha with
    | nil => exact iteF ⟨(by show 0 ≤ sizeLine; decide), fun p hp => q _ _ (Same.new' hp) (nil0 H p hp (Same.refl H))⟩
    | cons h t => exact iteT (q _ H (Same.refl H) (.tup hT (.cons h t)))
/-- Policy.__init__: the two errors, or an instance with its seven fields -/
def spPolI (K : PySem.W.Frag) (C CN CP : Addr) : Sp := fun vs H Q E => ∃ (p dx : Addr) (vn v0 v1 v2 v3 v4 v5 : V) (dn d0 d1 d2 d3 d4 d5 : PyData), vs = [.ref p, vn, v0, v1, v2, v3, v4, v5] ∧ H p = some (.ins C dx []) ∧
  Dq K H vn dn ∧ Dq K H v0 d0 ∧ Dq K H v1 d1 ∧ Dq K H v2 d2 ∧ Dq K H v3 d3 ∧ Dq K H v4 d4 ∧ Dq K H v5 d5 ∧
  (isName dn = false → ∀ H' d, Same H H' → H' d = none → E (.ref CN) (some d) (upd H' d (.xd [("value", vn)]))) ∧
  (isName dn = true → ∀ wf, wrongField d0 d1 d2 d3 d4 d5 = some wf → ∀ H' d, Same H H' → H' d = none → E (.ref CP) (some d) (upd H' d (.xd [("field", .str wf)]))) ∧
  (isName dn = true → wrongField d0 d1 d2 d3 d4 d5 = none → ∀ H' vp, (∀ b o, b ≠ p → H b = some o → H' b = some o) → Dq K H' vp (ownPauses (intOf d1) d2 d3) → H' p = some (.ins C dx (polF.zip [vn, v0, v1, vp, v3, v4, v5])) → Q .non H')
structure PolC (K : PySem.W.Frag) (C : Addr) : Prop where
  cl : Cls K C
  n_name : NoAttr K C "own_name"
  n_limit : NoAttr K C "own_limit"
  n_tries : NoAttr K C "own_tries"
  n_pauses : NoAttr K C "own_pauses"
  n_early : NoAttr K C "own_early"
  n_lossy : NoAttr K C "own_lossy"
  n_ending : NoAttr K C "own_ending"
theorem wf_none {d0 d1 d2 d3 d4 d5 : PyData} (h : wrongField d0 d1 d2 d3 d4 d5 = none) : ∃ n, d1 = .int n ∧ 1 ≤ n ∧ n ≤ 3 ∧ (d2 = .none ∨ ∃ ds, d2 = .tuple ds) := by
  unfold wrongField at h
  cases e0 : isBetw d0 1 20 with
  | false => rw [e0] at h; cases h
  | true =>
  cases e1 : isBetw d1 1 3 with
  | false => rw [e0, e1] at h; cases h
  | true =>
  obtain ⟨n, rfl, h1, h2⟩ := isBetw_int e1
  refine ⟨n, rfl, h1, h2, ?_⟩
  cases d2 with
  | none => exact .inl rfl
  | tuple ds => exact .inr ⟨ds, rfl⟩
  | _ => rw [e0, e1] at h; simp [notN, arePauses] at h
section
variable {P : Program} {w : World} {K : PySem.W.Frag} {mg : Str → Option Value} {base : Heap} {f g : Addr} {fd gd : FuncData} {CX : CXT}
abbrev FnPol (K : PySem.W.Frag) (f : Addr) (fd : FuncData) (kws : List (Str × V)) : Prop := FunD K "__init__" "Policy.__init__" (defArgs s_Policy_init) (defBody s_Policy_init) (defScope s_Policy_init) [] kws f fd
theorem pf {f : Str} {v : V} {fs : List (Str × V)} {n : Nat} (h : fs.length ≤ n) : (putF f v fs).length ≤ n + 1 := Nat.le_trans (length_putF _ _ _) (Nat.succ_le_succ h)
mutual
theorem Dq.ins {K : PySem.W.Frag} {H : Hp} {p C dx : Addr} {fs : List (Str × V)} {o : HO} (hp : H p = some (.ins C dx fs)) : ∀ {v : V} {d : PyData}, Dq K H v d → Dq K (upd H p o) v d
  | _, _, .non => .non
  | _, _, .bl b => .bl b
  | _, _, .int i => .int i
  | _, _, .str x h => .str x h
  | _, _, .lst h a => .lst (by
      rcases h with (h | ⟨ob, h⟩) | h
      · exact .inl (.inl (by rw [upd_ne (ne_of h hp (fun z => nomatch z))]; exact h))
      · exact .inl (.inr ⟨ob, by rw [upd_ne (ne_of h hp (fun z => nomatch z))]; exact h⟩)
      · exact .inr h) (DqA.ins hp a)
  | _, _, .tup h a => .tup (by
      rcases h with (h | ⟨ob, h⟩) | h
      · exact .inl (.inl (by rw [upd_ne (ne_of h hp (fun z => nomatch z))]; exact h))
      · exact .inl (.inr ⟨ob, by rw [upd_ne (ne_of h hp (fun z => nomatch z))]; exact h⟩)
      · exact .inr h) (DqA.ins hp a)
  | _, _, .dct h => .dct (by rw [upd_ne (ne_of h hp (fun z => nomatch z))]; exact h)
theorem DqA.ins {K : PySem.W.Frag} {H : Hp} {p C dx : Addr} {fs : List (Str × V)} {o : HO} (hp : H p = some (.ins C dx fs)) : ∀ {vs : List V} {ds : List PyData}, DqA K H vs ds → DqA K (upd H p o) vs ds
  | _, _, .nil => .nil
  | _, _, .cons h r => .cons (Dq.ins hp h) (DqA.ins hp r)
end
theorem sc_Policy_init : FnScope ["self", "name", "limit", "tries", "pauses", "early", "lossy", "ending", "wrong"] ["self", "name", "limit", "tries", "pauses", "early", "lossy", "ending"] (defScope s_Policy_init) := ⟨rfl, rfl, rfl, by decide +kernel, rfl, by decide +kernel, by decide +kernel⟩
theorem ok_Policy_init {kws : List (Str × V)} (F : FnPol K f fd kws) {C CN fN CP fP : Addr} (TN : PySem.MCX.XTxt P K mg "InvalidName" "value" CN fN) (TP : PySem.MCX.XTxt P K mg "InvalidPolicy" "field" CP fP) (TC : PolC K C)
    {g5 g6 : Addr} {e5 e6 : FuncData} (F5 : FnOk P w K mg base CX0 1 g5 e5 ["value"] (spName K)) (m5 : mg "is_name" = some (.ref g5)) (G5 : FnP K "is_name" s_is_name g5 e5)
    (F6 : FnOk P w K mg base CX0 4 g6 e6 ["limit", "tries", "pauses", "early", "lossy", "ending"] (spWrong K)) (m6 : mg "wrong_field" = some (.ref g6)) (G6 : FnP K "wrong_field" s_wrong_field g6 e6) :
    FnOk P w K mg base (L2.CX P w) 5 f fd ["self", "name", "limit", "tries", "pauses", "early", "lossy", "ending"] (spPolI K C CN CP) := by
  have b5 : Binds K e5 ["value"] [] := G5.bindsN fun _ _ _ _ _ _ us hl => match us, hl with | [_], _ => rfl
  have b6 : Binds K e6 ["limit", "tries", "pauses", "early", "lossy", "ending"] [] := G6.bindsN fun _ _ _ _ _ _ us hl => match us, hl with | [_, _, _, _, _, _], _ => rfl
  refine F.ok sc_Policy_init (fun vs H Q E h => ?_) (fun cdv A outer s H vs Q E hr h => ?_)
  · obtain ⟨_, _, _, _, _, _, _, _, _, _, _, _, _, _, _, _, rfl, _⟩ := h
    rfl
  · obtain ⟨p, dx, vn, v0, v1, v2, v3, v4, v5, dn, d0, d1, d2, d3, d4, d5, rfl, hp, hn, h0, h1, h2, h3, h4, h5, qN, qP, qY⟩ := h
    have hr1 := hr.mono (by decide : 1 ≤ 4)
    refine ⟨_, (pss_cons (ps_if (pt_not (pt_val (pe_call F5 hr1 rfl m5 G5.kp b5 .nil pass0 (pa_cons (pv 1) pa_nil)))) (pss_one (ps_raiseX rfl TN hr (takes_of rfl rfl rfl rfl) (pa_cons (pv 1) pa_nil))) pss_nil)
      (pss_cons (ps_set (i := 8) sc_Policy_init.nd rfl (Or.inl rfl) (pe_call F6 hr rfl m6 G6.kp b6 .nil pass0 (pa_cons (pv 2) (pa_cons (pv 3) (pa_cons (pv 4) (pa_cons (pv 5) (pa_cons (pv 6) (pa_cons (pv 7) pa_nil))))))))
      (pss_cons (ps_if (pt_cmp (pc_notN (pv 8))) (pss_one (ps_raiseX rfl TP hr (takes_of rfl rfl rfl rfl) (pa_cons (pv 8) pa_nil))) pss_nil)
      (pss_cons (ps_fld (pv 0) (pv 1) rfl)
      (pss_cons (ps_fld (pv 0) (pv 2) rfl)
      (pss_cons (ps_fld (pv 0) (pv 3) rfl)
      (pss_cons (ps_fld (pv 0) (PE.imp (t' := tPau K) (pe_ifExp (PW.pt (pw_and (pt_cmp (pc_isN (pv 4))) (pw_and1 (pt_cmp (pc_isN (pv 5)))))) (pe_op op_rep1 (pe_tup (pa_cons pe_int pa_nil)) (pe_op op_sub (pv 3) pe_int)) (pe_orT (pv 4) (pe_one (pe_tup pa_nil)))) (fun σ H Q q => pau_run q)) rfl)
      (pss_cons (ps_fld (pv 0) (pv 5) rfl)
      (pss_cons (ps_fld (pv 0) (pv 6) rfl)
      (pss_one (ps_fld (pv 0) (pv 7) rfl))))))))))), ?_⟩
    refine ⟨_, rfl, vn, dn, rfl, hn, fun H1 s1 => ⟨_, rfl, ?_⟩⟩
    cases en : isName dn with
    | false => exact iteT ⟨_, rfl, _, rfl, fun d hd => qN en H1 d s1 hd⟩
    | true =>
    refine iteF ⟨_, rfl, _, rfl, _, rfl, _, rfl, _, rfl, _, rfl, v0, v1, v2, v3, v4, v5, d0, d1, d2, d3, d4, d5, rfl, h0.up s1, h1.up s1, h2.up s1, h3.up s1, h4.up s1, h5.up s1, fun H2 s2 => ?_⟩
    have s02 := s1.trans s2
    cases ew : wrongField d0 d1 d2 d3 d4 d5 with
    | some wf =>
      refine ⟨_, rfl, _, rfl, iteT ⟨_, rfl, _, rfl, fun d hd => qP en wf ew H2 d s02 hd⟩⟩
    | none =>
    have fin := qY en ew
    obtain ⟨n, rfl, hn1, hn2, hd2⟩ := wf_none ew
    obtain rfl := dq_int h1
    refine ⟨_, rfl, _, rfl, iteF ?_⟩
    have hpn := s02 p _ hp
    refine ⟨_, rfl, _, rfl, p, C, dx, _, rfl, hpn, TC.cl, TC.n_name, (Nat.lt_of_le_of_lt (Nat.le_refl 0) (by decide)), ?_⟩
    refine ⟨_, rfl, _, rfl, p, C, dx, _, rfl, upd_same, TC.cl, TC.n_limit, (Nat.lt_of_le_of_lt (pf (Nat.le_refl 0)) (by decide)), ?_⟩
    refine ⟨_, rfl, _, rfl, p, C, dx, _, rfl, upd_same, TC.cl, TC.n_tries, (Nat.lt_of_le_of_lt (pf (pf (Nat.le_refl 0))) (by decide)), ?_⟩
    rw [upd_upd, upd_upd]
    refine ⟨v2, v3, n, d2, d3, rfl, rfl, rfl, hn1, hn2, Dq.ins hpn (h2.up s02), Dq.ins hpn (h3.up s02), hd2, fun vp H3 s3 hvp => ?_⟩
    have hp3 := s3 p _ upd_same
    refine ⟨_, rfl, p, C, dx, _, rfl, hp3, TC.cl, TC.n_pauses, (Nat.lt_of_le_of_lt (pf (pf (pf (Nat.le_refl 0)))) (by decide)), ?_⟩
    refine ⟨_, rfl, _, rfl, p, C, dx, _, rfl, upd_same, TC.cl, TC.n_early, (Nat.lt_of_le_of_lt (pf (pf (pf (pf (Nat.le_refl 0))))) (by decide)), ?_⟩
    refine ⟨_, rfl, _, rfl, p, C, dx, _, rfl, upd_same, TC.cl, TC.n_lossy, (Nat.lt_of_le_of_lt (pf (pf (pf (pf (pf (Nat.le_refl 0)))))) (by decide)), ?_⟩
    refine ⟨_, rfl, _, rfl, p, C, dx, _, rfl, upd_same, TC.cl, TC.n_ending, (Nat.lt_of_le_of_lt (pf (pf (pf (pf (pf (pf (Nat.le_refl 0))))))) (by decide)), ?_⟩
    rw [upd_upd, upd_upd, upd_upd]
    refine fin _ vp (fun b o hb e => ?_) (Dq.ins hp3 hvp) (upd_same.trans (by rfl))
    rw [upd_ne hb]
    exact s3 b o (by rw [upd_ne hb]; exact s02 b o e)
end
end K07
namespace K07
open PySem PySem.Spec PyProof.Rows L2
abbrev s_Policy_eq : Stmt := inClass (top 39) 13
abbrev s_Policy_fields : Stmt := inClass (top 39) 11
def fieldsK : List Str := ["limit", "tries", "pauses", "early", "lossy", "ending"]
def keysF : List Key := fieldsK.map Sum.inr
/-- a policy with its seven values -/
def IsPol (K : PySem.W.Frag) (C : Addr) (H : Hp) (v : V) (ds : List PyData) : Prop := ∃ (a dx : Addr) (vn v0 v1 v2 v3 v4 v5 : V), v = .ref a ∧ H a = some (.ins C dx (polF.zip [vn, v0, v1, v2, v3, v4, v5])) ∧ DqA K H [vn, v0, v1, v2, v3, v4, v5] ds
theorem IsPol.up {K : PySem.W.Frag} {C : Addr} {H H' : Hp} {v : V} {ds : List PyData} (s : Same H H') (h : IsPol K C H v ds) : IsPol K C H' v ds := by
  obtain ⟨a, dx, vn, v0, v1, v2, v3, v4, v5, rfl, ha, hd⟩ := h
  exact ⟨a, dx, vn, v0, v1, v2, v3, v4, v5, rfl, s _ _ ha, hd.up s⟩
def fieldsD : List PyData → List PyData
  | [_, dl, dt, dp, de, dy, dg] => [dl, dt, cond (notN de) .none dp, de, dy, dg]
  | _ => []
def polEq (ds es : List PyData) : Bool := PyData.eqv (ds.getD 0 .none) (es.getD 0 .none) && PyData.eqvAll (fieldsD ds) (fieldsD es)
def RowD (ds : List PyData) : Prop := ∀ d ∈ ds, SeqAt.shaped d = true ∧ d.hasDict = false
theorem RowD.fields {ds : List PyData} (h : RowD ds) : RowD (fieldsD ds) := by
  unfold fieldsD
  split
  · intro d hd
    simp only [List.mem_cons, List.not_mem_nil, or_false] at hd
    rename_i dn dl dt dp de dy dg
    rcases hd with rfl | rfl | rfl | rfl | rfl | rfl
    · exact h _ (by simp)
    · exact h _ (by simp)
    · cases notN de with
      | true => exact ⟨(show SeqAt.shaped PyData.none = true from by decide), rfl⟩
      | false => exact h _ (by simp)
    · exact h _ (by simp)
    · exact h _ (by simp)
    · exact h _ (by simp)
  · intro d hd
    cases hd
theorem RowD.nd : ∀ {ds : List PyData}, RowD ds → PyData.hasDictAll ds = false
  | [], _ => rfl
  | d :: ds, h => by
    have z := RowD.nd (ds := ds) fun e he => h e (List.mem_cons_of_mem _ he)
    simp [PyData.hasDictAll, (h d List.mem_cons_self).2, z]
structure PolT (K : PySem.W.Frag) (C : Addr) : Prop where
  ha : PySem.W.findIn K (.ref C) "__class__" = some (some (.builtin "object.__class__"))
  hn : PySem.W.specialIn K (.builtin "object.__class__") "__get__" = some (some (.builtin "getset_descriptor.__get__"))
  htk : PySem.W.takesIn K (.builtin "object.__class__") = some true
  hm : PySem.W.mroIn K C (.type "object") = some true
def spFields (K : PySem.W.Frag) (C : Addr) : Sp := fun vs H Q _ => ∃ (v : V) (ds : List PyData), vs = [v] ∧ IsPol K C H v ds ∧ ∀ q ws H', Same H H' → H q = none → H' q = some (.dK (keysF.zip ws)) → keysF.length = ws.length → DqA K H' ws (fieldsD ds) → Q (.ref q) H'
def spEqP (K : PySem.W.Frag) (C : Addr) : Sp := fun vs H Q _ => ∃ (v y : V) (ds : List PyData), vs = [v, y] ∧ IsPol K C H v ds ∧ RowD ds ∧
  ((∃ es, IsPol K C H y es ∧ RowD es ∧ ∀ H', Same H H' → Q (.bl (polEq ds es)) H') ∨ (∃ T, TyX K H y (.type T) ∧ PySem.W.kitOne K (.type T) (.ref C) = some false ∧ Q (.bl false) H))
section
variable {P : Program} {w : World} {K : PySem.W.Frag} {mg : Str → Option Value} {base : Heap} {f g : Addr} {fd gd : FuncData} {CX : CXT}
theorem sc_fields : FnScope ["self", "pauses", "values"] ["self"] (defScope s_Policy_fields) := ⟨rfl, rfl, rfl, by decide +kernel, rfl, by decide +kernel, by decide +kernel⟩
theorem room65 {k : Nat} {A : Around} (r : Room k A) : A.units + 65 < cLine := by have := r.un; omega
theorem nodup_keysF : keysF.Nodup := by decide +kernel
theorem dqA7 {K : PySem.W.Frag} {H : Hp} {v0 v1 v2 v3 v4 v5 v6 : V} {ds : List PyData} (h : DqA K H [v0, v1, v2, v3, v4, v5, v6] ds) : ∃ d0 d1 d2 d3 d4 d5 d6, ds = [d0, d1, d2, d3, d4, d5, d6] ∧ Dq K H v0 d0 ∧ Dq K H v1 d1 ∧ Dq K H v2 d2 ∧ Dq K H v3 d3 ∧ Dq K H v4 d4 ∧ Dq K H v5 d5 ∧ Dq K H v6 d6 := by
  match h with
  | .cons h0 (.cons h1 (.cons h2 (.cons h3 (.cons h4 (.cons h5 (.cons h6 .nil)))))) => exact ⟨_, _, _, _, _, _, _, rfl, h0, h1, h2, h3, h4, h5, h6⟩
abbrev FnM (K : PySem.W.Frag) (x q : Str) (st : Stmt) (f : Addr) (fd : FuncData) : Prop := FunD K x q (defArgs st) (defBody st) (defScope st) [] [] f fd
theorem ok_fields (F : FnM K "fields" "Policy.fields" s_Policy_fields f fd) {C fA : Addr} (TC : PolC K C) (mF : mg "FIELDS" = some (.ref fA)) (hF : ∀ H, SqT K H fA (fieldsK.map V.str)) (md : mg "dict" = none) (mz : mg "zip" = none) :
    FnOk P w K mg base CX0 1 f fd ["self"] (spFields K C) := by
  refine F.ok sc_fields (fun vs H Q E h => ?_) (fun cdv A outer s H vs Q E hr h => ?_)
  · obtain ⟨_, _, rfl, _⟩ := h
    rfl
  · obtain ⟨v, ds, rfl, ⟨a, dx, vn, v0, v1, v2, v3, v4, v5, rfl, ha, hd⟩, q⟩ := h
    obtain ⟨dn, d0, d1, d2, d3, d4, d5, rfl, hn, h0, h1, h2, h3, h4, h5⟩ := dqA7 hd
    refine ⟨_, (pss_cons (ps_set (i := 1) sc_fields.nd rfl (Or.inl rfl) (pe_ifExp (pt_cmp (pc_notN (pe_fld (pv 0) rfl))) pe_non (pe_fld (pv 0) rfl)))
      (pss_cons (ps_set (i := 2) sc_fields.nd rfl (Or.inl rfl) (pe_tup (pa_cons (pe_fld (pv 0) rfl) (pa_cons (pe_fld (pv 0) rfl) (pa_cons (pv 1) (pa_cons (pe_fld (pv 0) rfl) (pa_cons (pe_fld (pv 0) rfl) (pa_cons (pe_fld (pv 0) rfl) pa_nil))))))))
      (pss_one (ps_ret (pe_dzip rfl (by rfl) md (by rfl) mz (pa_cons (pe_glob (v := .ref fA) rfl mF rfl) (pa_cons (pv 2) pa_nil))))))), ?_⟩
    have key : ∀ vp : V, Dq K H vp (cond (notN d3) .none d2) → tSeq (tAsg (tTup (tCons (tFld K (tVar 0) "own_limit") (tCons (tFld K (tVar 0) "own_tries") (tCons (tVar 1) (tCons (tFld K (tVar 0) "own_early") (tCons (tFld K (tVar 0) "own_lossy") (tCons (tFld K (tVar 0) "own_ending") tNil))))))) (gName 2)) (tRet (tDZip K (tCons (tC (.ref fA)) (tCons (tVar 2) tNil))))
        { nx := fun _ H' => Q .non H', rt := Q } [some (.ref a), some vp, none] H := fun vp hvp => by
      refine ⟨_, rfl, a, C, dx, _, v0, rfl, ha, TC.cl, TC.n_limit, rfl, _, rfl, a, C, dx, _, v1, rfl, ha, TC.cl, TC.n_tries, rfl, _, rfl, _, rfl, a, C, dx, _, v3, rfl, ha, TC.cl, TC.n_early, rfl, _, rfl, a, C, dx, _, v4, rfl, ha, TC.cl, TC.n_lossy, rfl, _, rfl, a, C, dx, _, v5, rfl, ha, TC.cl, TC.n_ending, rfl, (by show 6 ≤ sizeLine; decide), fun p hp => ?_⟩
      refine ⟨_, rfl, fA, p, keysF, [v0, v1, vp, v3, v4, v5], rfl, hF _, SqT.of upd_same, rfl, by decide, fun r hr' => ?_⟩
      have s1 : Same H (upd (upd H p (.tup [v0, v1, vp, v3, v4, v5])) r (.dK (mergeK [] (keysF.zip [v0, v1, vp, v3, v4, v5])))) := (Same.new' hp).trans (Same.new' hr')
      refine q r [v0, v1, vp, v3, v4, v5] _ s1 ((Same.new' hp).free hr') (upd_same.trans ?_) rfl ((DqA.cons h0 (.cons h1 (.cons hvp (.cons h3 (.cons h4 (.cons h5 .nil)))))).up s1)
      rw [mergeK_new (show ((([] : List (Key × V)) ++ keysF.zip [v0, v1, vp, v3, v4, v5]).map (·.1)).Nodup from nodup_keysF)]
      rfl
    refine ⟨_, rfl, a, C, dx, _, v3, rfl, ha, TC.cl, TC.n_early, rfl, _, rfl, ?_⟩
    rw [dq_isN h3]
    cases e3 : notN d3 with
    | true => exact iteT (key .non (by rw [e3]; exact .non))
    | false => exact iteF ⟨_, rfl, a, C, dx, _, v2, rfl, ha, TC.cl, TC.n_pauses, rfl, key v2 (by rw [e3]; exact h2)⟩
theorem sc_eq : FnScope ["self", "other"] ["self", "other"] (defScope s_Policy_eq) := ⟨rfl, rfl, rfl, by decide +kernel, rfl, by decide +kernel, by decide +kernel⟩
theorem ok_eq (F : FnM K "__eq__" "Policy.__eq__" s_Policy_eq f fd) {C fF : Addr} {eF : FuncData} (TC : PolC K C) (TT : PolT K C) (mC : mg "Policy" = some (.ref C)) (mi : mg "isinstance" = none) (MF : Meth K C "fields" fF) (FF : FnOk P w K mg base CX0 1 fF eF ["self"] (spFields K C)) (GF : FnM K "fields" "Policy.fields" s_Policy_fields fF eF) :
    FnOk P w K mg base CX0 2 f fd ["self", "other"] (spEqP K C) := by
  have bF : Binds K eF ["self"] [] := GF.bindsN fun _ _ _ _ _ _ us hl => match us, hl with | [_], _ => rfl
  refine F.ok sc_eq (fun vs H Q E h => ?_) (fun cdv A outer s H vs Q E hr h => ?_)
  · obtain ⟨_, _, _, rfl, _⟩ := h
    rfl
  · obtain ⟨v, y, ds, rfl, hv, rd, h⟩ := h
    have hu := hr.units
    have hu64 : (cxOf CX0 P w K mg base ["self", "other"] "Policy.__eq__" (defScope s_Policy_eq) f cdv A outer s H E).A.units + 64 < cLine := hr.units
    have hu65 : (cxOf CX0 P w K mg base ["self", "other"] "Policy.__eq__" (defScope s_Policy_eq) f cdv A outer s H E).A.units + 65 < cLine := room65 hr
    refine ⟨_, (pss_one (ps_ret (pe_and (pe_callB call_isi (by rfl) mi boot_isinstance (pa_cons (pv 1) (pa_cons (pe_glob (v := .ref C) rfl mC rfl) pa_nil))) (pe_and (pe_cmpR (op_eqD hu64) (pe_fld (pv 0) rfl) (pe_fld (pv 1) rfl) (nomark _)) (pe_one (pe_cmpR (op_eqDk hu65) (pe_meth0 (pv 0) TC.cl MF FF hr bF .nil pass0) (pe_meth0 (pv 1) TC.cl MF FF hr bF .nil pass0) (nomark _))))))), ?_⟩
    rcases h with ⟨es, hy, re, q⟩ | ⟨T, ty, hk, q⟩
    · obtain ⟨a, dx, vn, v0, v1, v2, v3, v4, v5, rfl, ha, hd⟩ := id hv
      obtain ⟨b, dy, wn, w0, w1, w2, w3, w4, w5, rfl, hb, he⟩ := id hy
      obtain ⟨dn, d0, d1, d2, d3, d4, d5, rfl, hn, _⟩ := dqA7 hd
      obtain ⟨en, e0, e1, e2, e3, e4, e5, rfl, hm, _⟩ := dqA7 he
      obtain ⟨sn, xn⟩ := rd dn (by simp)
      obtain ⟨sm, xm⟩ := re en (by simp)
      refine ⟨_, rfl, _, .ref C, .ref C, .ref C, true, rfl, .own C, .base (.ins hb TC.cl TT.ha TT.hn TT.htk TT.hm), by simp [PySem.W.kitOne], _, rfl, iteT ?_⟩
      refine ⟨_, rfl, a, C, dx, _, vn, rfl, ha, TC.cl, TC.n_name, rfl, _, rfl, b, C, dy, _, wn, rfl, hb, TC.cl, TC.n_name, rfl, dn, en, hn.dp xn, hm.dp xm, sn, sm, _, rfl, ?_⟩
      cases ee : PyData.eqv dn en with
      | false =>
        have z := q H (Same.refl H)
        unfold polEq at z
        rw [show PyData.eqv (([dn, d0, d1, d2, d3, d4, d5] : List PyData).getD 0 .none) (([en, e0, e1, e2, e3, e4, e5] : List PyData).getD 0 .none) = false from ee] at z
        exact iteF z
      | true =>
      refine iteT ⟨_, rfl, a, dx, _, rfl, ha, rfl, _, _, rfl, hv, fun q1 ws1 H1 s1 _ hq1 l1 x1 => ⟨_, rfl, b, dy, _, rfl, s1 _ _ hb, rfl, _, _, rfl, hy.up s1, fun q2 ws2 H2 s2 _ hq2 l2 x2 => ?_⟩⟩
      have rf1 := rd.fields
      have rf2 := re.fields
      refine ⟨q1, q2, keysF, ws1, ws2, _, _, rfl, rfl, s2 _ _ hq1, hq2, nodup_keysF, l1, l2, (x1.up s2).dp rf1.nd, x2.dp rf2.nd, fun d hd => (rf1 d hd).1, fun d hd => (rf2 d hd).1, ?_⟩
      have z := q _ (s1.trans s2)
      unfold polEq at z
      rw [show PyData.eqv (([dn, d0, d1, d2, d3, d4, d5] : List PyData).getD 0 .none) (([en, e0, e1, e2, e3, e4, e5] : List PyData).getD 0 .none) = true from ee] at z
      exact z
    · exact ⟨_, rfl, y, .ref C, _, _, false, rfl, .own C, ty, hk, _, rfl, iteF q⟩
structure Getters (P : Program) (w : World) (K : PySem.W.Frag) (mg : Str → Option Value) (base : Heap) (C : Addr) (pa ga : Nat → Addr) (ge : Nat → FuncData) : Prop where
  p_name : PropOf K C "name" (pa 0) (ga 0)
  f_name : FnOk P w K mg base CX0 1 (ga 0) (ge 0) ["self"] (getSp C "own_name")
  b_name : Binds K (ge 0) ["self"] []
  p_limit : PropOf K C "limit" (pa 1) (ga 1)
  f_limit : FnOk P w K mg base CX0 1 (ga 1) (ge 1) ["self"] (getSp C "own_limit")
  b_limit : Binds K (ge 1) ["self"] []
  p_tries : PropOf K C "tries" (pa 2) (ga 2)
  f_tries : FnOk P w K mg base CX0 1 (ga 2) (ge 2) ["self"] (getSp C "own_tries")
  b_tries : Binds K (ge 2) ["self"] []
  p_pauses : PropOf K C "pauses" (pa 3) (ga 3)
  f_pauses : FnOk P w K mg base CX0 1 (ga 3) (ge 3) ["self"] (getSp C "own_pauses")
  b_pauses : Binds K (ge 3) ["self"] []
  p_early : PropOf K C "early" (pa 4) (ga 4)
  f_early : FnOk P w K mg base CX0 1 (ga 4) (ge 4) ["self"] (getSp C "own_early")
  b_early : Binds K (ge 4) ["self"] []
  p_lossy : PropOf K C "lossy" (pa 5) (ga 5)
  f_lossy : FnOk P w K mg base CX0 1 (ga 5) (ge 5) ["self"] (getSp C "own_lossy")
  b_lossy : Binds K (ge 5) ["self"] []
  p_ending : PropOf K C "ending" (pa 6) (ga 6)
  f_ending : FnOk P w K mg base CX0 1 (ga 6) (ge 6) ["self"] (getSp C "own_ending")
  b_ending : Binds K (ge 6) ["self"] []
end
end K07
namespace K07
open PySem PySem.Spec PyProof.Rows L2
def psPol : List Str := ["self", "name", "limit", "tries", "pauses", "early", "lossy", "ending"]
def kwsP (ea : Addr) : List (Str × V) := [("tries", .int 1), ("pauses", .non), ("early", .non), ("lossy", .bl false), ("ending", .ref ea)]
section
variable {P : Program} {w : World} {K : PySem.W.Frag} {mg : Str → Option Value} {base : Heap} {f g : Addr} {fd gd : FuncData} {CX : CXT}
theorem kbA {ea : Addr} (GI : FnPol K f fd (kwsP ea)) : ∃ mv : List Value, KBn K fd psPol 3 ["tries", "pauses", "early", "lossy", "ending"] (fun us ws => us ++ ws) (fun vs zs => vs ++ zs) :=
  FunD.kbinds0 (ps := psPol) GI 3 ["tries", "pauses", "early", "lossy", "ending"] [] (fun us _ ws => us ++ ws) (by simp [kwsP]) (fun q h => by cases h) (fun r1 _ r2 => r1.append r2)
    (fun D doc pm an cdv ct us mv ws l1 l2 l3 => match us, mv, ws, l1, l2, l3 with | [_, _, _], [], [_, _, _, _, _], _, _, _ => rfl)
theorem kb0 {ea : Addr} (GI : FnPol K f fd (kwsP ea)) : ∃ mv : List Value, KBn K fd psPol 3 [] (fun us ws => us ++ mv) (fun vs zs => vs ++ [.int 1, .non, .non, .bl false, .ref ea]) :=
  FunD.kbinds0 (ps := psPol) GI 3 [] (kwsP ea) (fun us mv _ => us ++ mv) (by simp [kwsP]) (fun q h => h) (fun r1 r2 _ => r1.append r2)
    (fun D doc pm an cdv ct us mv ws l1 l2 l3 => match us, mv, ws, l1, l2, l3 with | [_, _, _], [_, _, _, _, _], [], _, _, _ => ⟨_, _, _, _, _, _, rfl, rfl, _, _, _, _, _, _, rfl, rfl, _, _, _, _, _, _, rfl, rfl, _, _, _, _, _, _, rfl, rfl, _, _, _, _, _, _, rfl, rfl, rfl⟩)
theorem kbT {ea : Addr} (GI : FnPol K f fd (kwsP ea)) : ∃ mv : List Value, KBn K fd psPol 3 ["tries"] (fun us ws => us ++ (ws ++ mv)) (fun vs zs => vs ++ (zs ++ [.non, .non, .bl false, .ref ea])) :=
  FunD.kbinds0 (ps := psPol) GI 3 ["tries"] [("pauses", .non), ("early", .non), ("lossy", .bl false), ("ending", .ref ea)] (fun us mv ws => us ++ (ws ++ mv)) (by simp [kwsP]) (fun q h => by simp only [kwsP]; exact List.mem_cons_of_mem _ h) (fun r1 r2 r3 => r1.append (r3.append r2))
    (fun D doc pm an cdv ct us mv ws l1 l2 l3 => match us, mv, ws, l1, l2, l3 with | [_, _, _], [_, _, _, _], [_], _, _, _ => ⟨_, _, _, _, _, _, rfl, rfl, _, _, _, _, _, _, rfl, rfl, _, _, _, _, _, _, rfl, rfl, _, _, _, _, _, _, rfl, rfl, rfl⟩)
theorem kbP {ea : Addr} (GI : FnPol K f fd (kwsP ea)) : ∃ mv : List Value, KBn K fd psPol 3 ["pauses"] (fun us ws => us ++ (mv.take 1 ++ (ws ++ mv.drop 1))) (fun vs zs => vs ++ ([.int 1] ++ (zs ++ [.non, .bl false, .ref ea]))) :=
  FunD.kbinds0 (ps := psPol) GI 3 ["pauses"] [("tries", .int 1), ("early", .non), ("lossy", .bl false), ("ending", .ref ea)] (fun us mv ws => us ++ (mv.take 1 ++ (ws ++ mv.drop 1))) (by simp [kwsP]) (fun q h => by simp only [kwsP, List.mem_cons, List.not_mem_nil, or_false] at h ⊢; exact h.imp id .inr)
    (fun r1 r2 r3 => match r2 with | .nil => r1.append (.append .nil (r3.append .nil)) | .cons a b => r1.append (.append (.cons a .nil) (r3.append b)))
    (fun D doc pm an cdv ct us mv ws l1 l2 l3 => match us, mv, ws, l1, l2, l3 with | [_, _, _], [_, _, _, _], [_], _, _, _ => ⟨_, _, _, _, _, _, rfl, rfl, _, _, _, _, _, _, rfl, rfl, _, _, _, _, _, _, rfl, rfl, _, _, _, _, _, _, rfl, rfl, rfl⟩)
end
end K07
namespace K07
open PySem PySem.Spec PyProof.Rows L2
/-! ### the plain law: rows and the policies made of them -/
def nmsL : List Str := ["a", "quick", "zzzzzzzz", "b"]
def EndOk (g : PyData) : Prop := g = .tuple [.str "go"] ∨ g = .tuple [.str "deadline"] ∨ ∃ j : Int, g = .tuple [.str "stop", .int j] ∧ 0 ≤ j ∧ j ≤ 20
def EarOk (t : Int) (ps : List Int) (e : PyData) : Prop := (e = .none ∧ (ps.length : Int) = t - 1) ∨ ∃ i : Int, e = .int i ∧ 1 ≤ i ∧ i ≤ 20 ∧ 2 ≤ t ∧ ps = []
structure RowP (n : Str) (l t : Int) (ps : List Int) (e : PyData) (y : Bool) (g : PyData) : Prop where
  nm : n ∈ nmsL
  l1 : 1 ≤ l
  l2 : l ≤ 20
  t1 : 1 ≤ t
  t2 : t ≤ 3
  hp : ∀ p ∈ ps, 0 ≤ p ∧ p ≤ 8
  ear : EarOk t ps e
  ed : EndOk g
def rowOf (n : Str) (l t : Int) (ps : List Int) (e : PyData) (y : Bool) (g : PyData) : List PyData := [.str n, .int l, .int t, .tuple (ps.map .int), e, .bool y, g]
def RowOk (ds : List PyData) : Prop := ∃ n l t ps e y g, ds = rowOf n l t ps e y g ∧ RowP n l t ps e y g
/-- parts that are small -/
def cmpB (d : PyData) : Bool := d.canLay0 && (!d.hasDict && (d.showable && (d.intsShort 13 && (decide (d.depth ≤ 3) && decide (d.weight ≤ 60)))))
structure Cmp (d : PyData) : Prop where
  lay : d.canLay0 = true
  nd : d.hasDict = false
  sh : d.showable = true
  si : d.intsShort 13 = true
  dp : d.depth ≤ 3
  wt : d.weight ≤ 60
theorem cmp_of {d : PyData} (h : cmpB d = true) : Cmp d := by
  unfold cmpB at h
  simp only [Bool.and_eq_true, Bool.not_eq_true', decide_eq_true_eq] at h
  obtain ⟨z1, z2, z3, z4, z5, z6⟩ := h
  exact ⟨z1, z2, z3, z4, z5, z6⟩
theorem cmp_bool (b : Bool) : Cmp (.bool b) := cmp_of (by cases b <;> decide +kernel)
theorem cmp_int {i : Int} (h0 : 0 ≤ i) (h1 : i ≤ 20) : Cmp (.int i) := by
  have z : ∀ i : Nat, i < 21 → cmpB (.int i) = true := by decide +kernel
  obtain ⟨k, rfl⟩ := Int.eq_ofNat_of_zero_le h0
  exact cmp_of (z k (by omega))
theorem cmp_str {n : Str} (h : n ∈ nmsL) : Cmp (.str n) := by
  have z : (nmsL.all fun n => cmpB (.str n)) = true := by decide +kernel
  exact cmp_of (List.all_eq_true.mp z n h)
theorem cmp_end {g : PyData} (h : EndOk g) : Cmp g := by
  rcases h with rfl | rfl | ⟨j, rfl, h0, h1⟩
  · exact cmp_of (by decide +kernel)
  · exact cmp_of (by decide +kernel)
  · have z : ∀ i : Nat, i < 21 → cmpB (.tuple [.str "stop", .int i]) = true := by decide +kernel
    obtain ⟨k, rfl⟩ := Int.eq_ofNat_of_zero_le h0
    exact cmp_of (z k (by omega))
theorem cmp_ps {ps : List Int} (h : ∀ p ∈ ps, 0 ≤ p ∧ p ≤ 8) (hl : ps.length ≤ 2) : Cmp (.tuple (ps.map .int)) := by
  match ps, h, hl with
  | [], _, _ => exact cmp_of (by decide +kernel)
  | [a], h, _ =>
    have z : ∀ i : Nat, i < 9 → cmpB (.tuple [.int i]) = true := by decide +kernel
    obtain ⟨h0, h1⟩ := h a (by simp)
    obtain ⟨k, rfl⟩ := Int.eq_ofNat_of_zero_le h0
    exact cmp_of (z k (by omega))
  | [a, b], h, _ =>
    have z : ∀ i : Nat, i < 9 → ∀ j : Nat, j < 9 → cmpB (.tuple [.int i, .int j]) = true := by decide +kernel
    obtain ⟨h0, h1⟩ := h a (by simp)
    obtain ⟨g0, g1⟩ := h b (by simp)
    obtain ⟨k, rfl⟩ := Int.eq_ofNat_of_zero_le h0
    obtain ⟨m, rfl⟩ := Int.eq_ofNat_of_zero_le g0
    exact cmp_of (z k (by omega) m (by omega))
theorem ear_len {t : Int} {ps : List Int} {e : PyData} (h : EarOk t ps e) (h2 : t ≤ 3) : ps.length ≤ 2 := by
  rcases h with ⟨_, h⟩ | ⟨_, _, _, _, _, rfl⟩
  · omega
  · simp
theorem cmp_ear {t : Int} {ps : List Int} {e : PyData} (h : EarOk t ps e) : Cmp e := by
  rcases h with ⟨rfl, _⟩ | ⟨i, rfl, h1, h2, _⟩
  · exact cmp_of (by decide +kernel)
  · exact cmp_int (by omega) h2
theorem RowOk.cmp {ds : List PyData} (h : RowOk ds) : ∀ d ∈ ds, Cmp d := by
  obtain ⟨n, l, t, ps, e, y, g, rfl, R⟩ := h
  intro d hd
  simp only [rowOf, List.mem_cons, List.not_mem_nil, or_false] at hd
  obtain ⟨nm, l1, l2, t1, t2, hp, ear, ed⟩ := R
  rcases hd with rfl | rfl | rfl | rfl | rfl | rfl | rfl
  · exact cmp_str nm
  · exact cmp_int (by omega) l2
  · exact cmp_int (by omega) (by omega)
  · exact cmp_ps hp (ear_len ear t2)
  · exact cmp_ear ear
  · exact cmp_bool y
  · exact cmp_end ed
theorem RowOk.rowD {ds : List PyData} (h : RowOk ds) : RowD ds := fun d hd => by
  have c := h.cmp d hd
  refine ⟨?_, c.nd⟩
  unfold SeqAt.shaped
  rw [c.lay, decide_eq_true (show d.depth ≤ 64 from Nat.le_trans c.dp (by decide))]
  rfl
/-- a list of small parts -/
structure Fine (d : PyData) : Prop where
  sh : d.showable = true
  nd : d.hasDict = false
  dp : d.depth ≤ 60
  ln : d.shown.length ≤ sizeLine
theorem fine_all : ∀ {ds : List PyData}, (∀ d ∈ ds, Cmp d) → PyData.canLayAll0 ds = true ∧ PyData.hasDictAll ds = false ∧ PyData.showableAll ds = true ∧ PyData.intsShortAll 13 ds = true ∧ PyData.depthAll ds ≤ 3 ∧ PyData.weightAll ds ≤ 61 * ds.length
  | [], _ => ⟨rfl, rfl, rfl, rfl, by decide, by decide⟩
  | d :: ds, h => by
    obtain ⟨a1, a2, a3, a4, a5, a6⟩ := fine_all (ds := ds) fun e he => h e (List.mem_cons_of_mem _ he)
    obtain ⟨c1, c2, c3, c4, c5, c6⟩ := h d List.mem_cons_self
    refine ⟨by simp [PyData.canLayAll0, c1, a1], by simp [PyData.hasDictAll, c2, a2], by simp [PyData.showableAll, c3, a3], by simp [PyData.intsShortAll, c4, a4], ?_, ?_⟩
    · simp only [PyData.depthAll]; omega
    · simp only [PyData.weightAll, List.length_cons]; omega
theorem fine_list {ds : List PyData} (h : ∀ d ∈ ds, Cmp d) (hl : ds.length ≤ 100) : Fine (.list ds) := by
  obtain ⟨a1, a2, a3, a4, a5, a6⟩ := fine_all h
  refine ⟨by simp [PyData.showable, a3], by simp [PyData.hasDict, a2], by simp only [PyData.depth]; omega, ?_⟩
  have z : (PyData.list ds).shown.length ≤ 15728653 := shown_le13 (by
    unfold PyData.layable0
    simp only [PyData.canLay0, PyData.depth, PyData.weight, a1, Bool.and_eq_true, decide_eq_true_eq, true_and]
    exact ⟨decide_eq_true (by omega), decide_eq_true (Nat.le_trans (show PyData.weightAll ds ≤ 10000 by omega) (by decide))⟩) (by simp [PyData.intsShort, a4])
  exact Nat.le_trans z (by decide)
mutual
theorem eqv_refl : ∀ d : PyData, d.hasDict = false → PyData.eqv d d = true
  | .none, _ => by simp [PyData.eqv]
  | .bool b, _ => by simp [PyData.eqv]
  | .int i, _ => by simp [PyData.eqv]
  | .str x, _ => by simp [PyData.eqv]
  | .list xs, h => by simp only [PyData.eqv]; exact eqvAll_refl xs (by simpa [PyData.hasDict] using h)
  | .tuple xs, h => by simp only [PyData.eqv]; exact eqvAll_refl xs (by simpa [PyData.hasDict] using h)
  | .dict _, h => by simp [PyData.hasDict] at h
theorem eqvAll_refl : ∀ ds : List PyData, PyData.hasDictAll ds = false → PyData.eqvAll ds ds = true
  | [], _ => by simp [PyData.eqvAll]
  | d :: ds, h => by
    simp [PyData.hasDictAll] at h
    simp [PyData.eqvAll, eqv_refl d h.1, eqvAll_refl ds h.2]
end
theorem row_eq {ds es : List PyData} (h : RowOk ds) (k : RowOk es) : polEq ds es = PyData.eqvAll ds es := by
  obtain ⟨n, l, t, ps, e, y, g, rfl, R⟩ := h
  obtain ⟨n', l', t', ps', e', y', g', rfl, R'⟩ := k
  unfold polEq rowOf fieldsD
  simp only [PyData.eqvAll, List.getD_cons_zero, Bool.and_true]
  rcases R.ear with ⟨rfl, hp⟩ | ⟨i, rfl, hi1, hi2, ht, rfl⟩
  · rcases R'.ear with ⟨rfl, hp'⟩ | ⟨j, rfl, hj1, hj2, ht', rfl⟩
    · simp [notN]
    · simp [notN, PyData.eqv]
  · rcases R'.ear with ⟨rfl, hp'⟩ | ⟨j, rfl, hj1, hj2, ht', rfl⟩
    · simp [notN, PyData.eqv]
    · simp [notN, PyData.eqv, PyData.eqvAll]
theorem row_self {ds : List PyData} (h : RowOk ds) : polEq ds ds = true := by
  rw [row_eq h h]
  exact eqvAll_refl ds h.rowD.nd
def delay (e : PyData) (ps : List Int) : PyData := cond (notN e) .none (.tuple (ps.map .int))
theorem end_ok {g : PyData} (h : EndOk g) : isEnding g = true := by
  rcases h with rfl | rfl | ⟨j, rfl, h0, h1⟩
  · decide +kernel
  · decide +kernel
  · simp [isEnding, isBetw, h0, h1]
theorem ps_ok {ps : List Int} {t : Int} (h : ∀ p ∈ ps, 0 ≤ p ∧ p ≤ 8) (hl : (ps.length : Int) = t - 1) : arePauses (.tuple (ps.map .int)) t = true := by
  simp only [arePauses, List.length_map, Bool.and_eq_true, decide_eq_true_eq, List.all_eq_true, List.mem_map]
  refine ⟨hl, ?_⟩
  rintro _ ⟨p, hp, rfl⟩
  obtain ⟨h0, h1⟩ := h p hp
  simp [isBetw, h0, h1]
theorem row_wf {n : Str} {l t : Int} {ps : List Int} {e : PyData} {y : Bool} {g : PyData} (R : RowP n l t ps e y g) : wrongField (.int l) (.int t) (delay e ps) e (.bool y) g = none ∧ ownPauses t (delay e ps) e = .tuple (ps.map .int) := by
  obtain ⟨nm, l1, l2, t1, t2, hp, ear, ed⟩ := R
  have hg := end_ok ed
  rcases ear with ⟨rfl, hl⟩ | ⟨i, rfl, h1, h2, ht, rfl⟩
  · have hq := ps_ok hp hl
    refine ⟨?_, rfl⟩
    simp only [wrongField, delay, notN, cond_false, isBetw, l1, l2, t1, t2, decide_true, Bool.and_true, cond_true, intOf, hq, hg, isBoolD, Bool.not_true, Bool.false_or, Bool.and_false, Bool.false_and]
  · refine ⟨?_, rfl⟩
    have h3 : ¬ t < 2 := by omega
    simp only [wrongField, delay, notN, cond_false, isBetw, l1, l2, t1, t2, decide_true, Bool.and_true, cond_true, intOf, ltTwo, h1, h2, h3, decide_false, hg, isBoolD, Bool.not_true, Bool.false_or, Bool.and_false, Bool.false_and]
theorem nm_ok {n : Str} (h : n ∈ nmsL) : isName (.str n) = true := by
  have z : (nmsL.all fun n => isName (.str n)) = true := by decide +kernel
  exact List.all_eq_true.mp z n h
end K07
namespace K07
open PySem PySem.Spec PyProof.Rows L2
abbrev s_law_pool : Stmt := top 50
abbrev s_law_draw : Stmt := top 51
/-! ### the law's draws: a pool is a list of two ints -/
def IsPool (H : Hp) (p : Addr) : Prop := ∃ c z : Int, H p = some (.lst [.int c, .int z]) ∧ 0 ≤ z ∧ z < 2147483647
abbrev poolO (c z : Int) : HO := .lst [.int c, .int z]
def spPool (K : PySem.W.Frag) : Sp := fun vs H Q _ => ∃ (a : Addr) (ns : List Int) (k : Int), vs = [.ref a, .int k] ∧ SqL K H a (ns.map V.int) ∧ ns.length ≤ 1000 ∧ 0 ≤ k ∧ k ≤ 100 ∧ ∀ p c z, H p = none → 0 ≤ z → z < 2147483647 → Q (.ref p) (upd H p (poolO c z))
def spDraw : Sp := fun vs H Q _ => ∃ (p : Addr) (m : Int), vs = [.ref p, .int m] ∧ IsPool H p ∧ 0 < m ∧ m < 1073741824 ∧ ∀ d c z, 0 ≤ d → d < m → 0 ≤ z → z < 2147483647 → Q (.int d) (upd H p (poolO c z))
section
variable {P : Program} {w : World} {K : PySem.W.Frag} {mg : Str → Option Value} {base : Heap} {f g : Addr} {fd gd : FuncData} {CX : CXT}
theorem emod_lt {a m : Int} (h : 0 < m) : 0 ≤ a % m ∧ a % m < m := ⟨Int.emod_nonneg _ (by omega), Int.emod_lt_of_pos _ h⟩
theorem sc_law_pool : FnScope ["_law_script", "_law_k", "_law_cell", "_law_seed"] ["_law_script", "_law_k"] (defScope s_law_pool) := ⟨rfl, rfl, rfl, by decide +kernel, rfl, by decide +kernel, by decide +kernel⟩
theorem ok_law_pool (F : FnP K "_law_pool" s_law_pool f fd) (mlen : mg "len" = none) (mint : mg "int" = none) : FnOk P w K mg base CX0 1 f fd ["_law_script", "_law_k"] (spPool K) := by
  refine F.ok sc_law_pool (fun vs H Q E h => ?_) (fun cdv A outer s H vs Q E hr h => ?_)
  · obtain ⟨_, _, _, rfl, _⟩ := h
    rfl
  · obtain ⟨a, ns, k, rfl, hS, hlen, hk0, hk1, q⟩ := h
    refine ⟨_, (pss_cons (ps_set (i := 2) sc_law_pool.nd rfl (Or.inl rfl) pe_int)
      (pss_cons (ps_if (pt_cmpR op_lt (pv 1) (pe_callB call_len (by rfl) mlen (by decide +kernel) (pa_cons (pv 0) pa_nil)) (nomark _)) (pss_one (ps_set (i := 2) sc_law_pool.nd rfl (Or.inl rfl) (pe_ix ix_list (pv 0) (pv 1) (fun _ _ => rfl)))) pss_nil)
      (pss_cons (ps_set (i := 3) sc_law_pool.nd rfl (Or.inl rfl) (pe_op op_mod (pe_op op_pow (pe_op op_add (pe_op op_add (pe_op op_mod (pe_callTy call_int1 (by rfl) mint (by decide +kernel) (pa_cons (pv 2) pa_nil)) pe_int) (pe_op op_mul (pe_op op_mul pe_int (pv 1)) (pv 1))) pe_int) pe_int) pe_int))
      (pss_cons (ps_if (pt_cmpR op_lt (pv 2) (pe_op op_pow pe_int pe_int) (nomark _)) (pss_one (ps_set (i := 2) sc_law_pool.nd rfl (Or.inl rfl) pe_int)) pss_nil)
      (pss_one (ps_ret (pe_lst (pa_cons (pv 2) (pa_cons (pv 3) pa_nil))))))))), ?_⟩
    have hkk : 0 ≤ 7919 * k ∧ 7919 * k ≤ 791900 := by omega
    have hk2 : 0 ≤ 7919 * k * k ∧ 7919 * k * k ≤ 79190000 := by
      refine ⟨Int.mul_nonneg hkk.1 hk0, ?_⟩
      have z : 7919 * k * k ≤ 791900 * 100 := Int.mul_le_mul hkk.2 hk1 hk0 (by decide)
      omega
    refine ⟨_, rfl, _, rfl, _, (ns.map V.int).length, rfl, .inl ⟨_, hS, rfl⟩, _, _, rfl, rfl, _, rfl, ?_⟩
    have hb : ∀ cell : Int, (cell % 2147483629 + 7919 * k * k + 31).natAbs < 2 ^ 64 := fun cell => by
      have z := @emod_lt cell 2147483629 (by decide)
      omega
    by_cases hk : k < ((ns.map V.int).length : Int)
    · refine iteY hk ?_
      obtain ⟨i, rfl⟩ := Int.eq_ofNat_of_zero_le hk0
      have hi : i < ns.length := by rw [List.length_map] at hk; omega
      refine ⟨_, rfl, _, rfl, a, _, _, .int ns[i], rfl, rfl, hS, atI_nat (by simp [hi]), ?_⟩
      refine ⟨_, rfl, .inl ⟨_, rfl, _, _, rfl, rfl, (by decide : (0 : Int) < 2147483629), _, rfl, _, _, rfl, rfl, .inl ⟨by decide, by decide⟩, _, rfl, _, _, rfl, rfl, .inl ⟨by omega, by omega⟩, _, _, rfl, rfl, _, _, rfl, rfl, _, _, rfl, rfl, ⟨by decide, by decide, hb _⟩, _, _, rfl, rfl, (by decide : (0 : Int) < 2147483647), ?_⟩⟩
      refine ⟨_, rfl, _, _, rfl, rfl, ⟨by decide, by decide, by decide⟩, _, _, rfl, rfl, _, rfl, ?_⟩
      refine iteB (fun _ => ?_) (fun _ => ?_)
      · exact ⟨_, rfl, _, rfl, (by show 2 ≤ sizeLine; decide), fun p hp => q p _ _ hp (emod_lt (by decide)).1 (emod_lt (by decide)).2⟩
      · exact ⟨_, rfl, _, rfl, (by show 2 ≤ sizeLine; decide), fun p hp => q p _ _ hp (emod_lt (by decide)).1 (emod_lt (by decide)).2⟩
    · refine iteN hk ?_
      refine ⟨_, rfl, .inl ⟨_, rfl, _, _, rfl, rfl, (by decide : (0 : Int) < 2147483629), _, rfl, _, _, rfl, rfl, .inl ⟨by decide, by decide⟩, _, rfl, _, _, rfl, rfl, .inl ⟨by omega, by omega⟩, _, _, rfl, rfl, _, _, rfl, rfl, _, _, rfl, rfl, ⟨by decide, by decide, hb _⟩, _, _, rfl, rfl, (by decide : (0 : Int) < 2147483647), ?_⟩⟩
      refine ⟨_, rfl, _, _, rfl, rfl, ⟨by decide, by decide, by decide⟩, _, _, rfl, rfl, _, rfl, ?_⟩
      refine iteB (fun _ => ?_) (fun _ => ?_)
      · exact ⟨_, rfl, _, rfl, (by show 2 ≤ sizeLine; decide), fun p hp => q p _ _ hp (emod_lt (by decide)).1 (emod_lt (by decide)).2⟩
      · exact ⟨_, rfl, _, rfl, (by show 2 ≤ sizeLine; decide), fun p hp => q p _ _ hp (emod_lt (by decide)).1 (emod_lt (by decide)).2⟩
theorem sc_law_draw : FnScope ["_law_pool_here", "_law_many_here", "_law_digit"] ["_law_pool_here", "_law_many_here"] (defScope s_law_draw) := ⟨rfl, rfl, rfl, by decide +kernel, rfl, by decide +kernel, by decide +kernel⟩
theorem ok_law_draw (F : FnP K "_law_draw" s_law_draw f fd) (mint : mg "int" = none) : FnOk P w K mg base CX0 1 f fd ["_law_pool_here", "_law_many_here"] spDraw := by
  refine F.ok sc_law_draw (fun vs H Q E h => ?_) (fun cdv A outer s H vs Q E hr h => ?_)
  · obtain ⟨_, _, rfl, _⟩ := h
    rfl
  · obtain ⟨p, m, rfl, ⟨c, z, hp, hz0, hz1⟩, hm0, hm1, q⟩ := h
    refine ⟨_, (pss_cons (ps_if (pt_cmpR op_gt (pe_ix ix_list (pv 0) pe_int (fun _ _ => rfl)) pe_int (nomark _)) (pss_cons (ps_set (i := 2) sc_law_draw.nd rfl (Or.inl rfl) (pe_op op_mod (pe_callTy call_int1 (by rfl) mint (by decide +kernel) (pa_cons (pe_ix ix_list (pv 0) pe_int (fun _ _ => rfl)) pa_nil)) (pv 1)))
      (pss_cons (ps_asg (pe_op op_fdiv (pe_ix ix_list (pv 0) pe_int (fun _ _ => rfl)) (pv 1)) (pg_sub (pv 0) pe_int set_list))
      (pss_one (ps_ret (pv 2))))) pss_nil)
      (pss_cons (ps_asg (pe_op op_mod (pe_callTy call_int1 (by rfl) mint (by decide +kernel) (pa_cons (pe_op op_add (pe_op op_mul (pe_ix ix_list (pv 0) pe_int (fun _ _ => rfl)) pe_int) pe_int) pa_nil)) pe_int) (pg_sub (pv 0) pe_int set_list))
      (pss_one (ps_ret (pe_op op_mod (pe_op op_fdiv (pe_op op_mod (pe_callTy call_int1 (by rfl) mint (by decide +kernel) (pa_cons (pe_op op_mul (pe_ix ix_list (pv 0) pe_int (fun _ _ => rfl)) (pe_ix ix_list (pv 0) pe_int (fun _ _ => rfl))) pa_nil)) pe_int) pe_int) (pv 1)))))), ?_⟩
    refine ⟨_, rfl, p, _, 0, _, rfl, rfl, SqL.of hp, rfl, _, _, rfl, rfl, _, rfl, ?_⟩
    by_cases h0 : 0 < c
    · refine iteY h0 ?_
      refine ⟨_, rfl, p, _, 0, _, rfl, rfl, SqL.of hp, rfl, .inl ⟨c, rfl, _, rfl, _, _, rfl, rfl, hm0, ?_⟩⟩
      refine ⟨_, rfl, p, _, 0, _, rfl, rfl, SqL.of hp, rfl, _, rfl, _, _, rfl, rfl, ⟨hm0, hm1⟩, _, rfl, p, _, 0, 0, rfl, rfl, hp, rfl, ?_⟩
      exact ⟨_, rfl, q (c % m) (c / m) z (emod_lt hm0).1 (emod_lt hm0).2 hz0 hz1⟩
    · refine iteN h0 ?_
      have hz := @emod_lt (z * 48271 + 11) 2147483647 (by decide)
      refine ⟨_, rfl, p, _, 1, _, rfl, rfl, SqL.of hp, rfl, _, _, rfl, rfl, .inl ⟨by omega, by omega⟩, _, _, rfl, rfl, .inl ⟨_, rfl, _, _, rfl, rfl, (by decide : (0 : Int) < 2147483647), _, rfl, p, _, 1, 1, rfl, rfl, hp, rfl, ?_⟩⟩
      refine ⟨_, rfl, p, _, 1, _, rfl, rfl, SqL.of upd_same, rfl, _, rfl, p, _, 1, _, rfl, rfl, SqL.of upd_same, rfl, _, _, rfl, rfl, .inl ⟨by omega, by omega⟩, .inl ⟨_, rfl, _, _, rfl, rfl, (by decide : (0 : Int) < 2147483629), _, _, rfl, rfl, ⟨by decide, by decide⟩, _, rfl, _, _, rfl, rfl, hm0, ?_⟩⟩
      exact q _ c ((z * 48271 + 11) % 2147483647) (emod_lt hm0).1 (emod_lt hm0).2 hz.1 hz.2
end
end K07
namespace K07
open PySem PySem.Spec PyProof.Rows L2
abbrev s_is_block : Stmt := top 19
abbrev s_is_part : Stmt := top 20
abbrev s_is_call : Stmt := top 21
abbrev s_blocks_of : Stmt := top 22
/-! ### parts -/
def sizes (z : Str) : Option Int := if z = "run" then some 3 else if z = "risk" then some 1 else if z = "call" then some 3 else if z = "want" then some 3 else if z = "maybe" then some 2 else if z = "both" then some 3 else none
def sizesV (z : Str) : Option V := (sizes z).map V.int
theorem sizes_getD (z : Str) : (sizesV z).getD (.int 0) = V.int ((sizes z).getD 0) := by
  unfold sizesV
  cases sizes z <;> rfl
theorem at0 {x : V} {xs : List V} : atI (x :: xs) 0 = some x := atI_nat (xs := x :: xs) (j := 0) (v := x) rfl
def isBlock (d : PyData) (dep : Int) : Bool := isTupD d && decide (dep < 3)
def partOf (z : Str) (ds : List PyData) (dep : Int) : Bool :=
  if z = "run" then isBetw (ds.getD 0 .none) 0 20 && isBetw (ds.getD 1 .none) (intOf (ds.getD 0 .none)) 20
  else if z = "call" ∨ z = "want" then isName (ds.getD 0 .none) && isName (ds.getD 1 .none)
  else if z = "maybe" ∨ z = "both" then ds.all fun b => isBlock b (dep + 1)
  else true
def isPart (d : PyData) (dep : Int) : Bool := match d with
  | .tuple (.str z :: ds) => decide ((sizes z).getD 0 = (ds.length : Int) + 1) && partOf z ds dep
  | _ => false
theorem isPart_str (z : Str) (ds : List PyData) (dep : Int) : isPart (.tuple (.str z :: ds)) dep = (decide ((sizes z).getD 0 = (ds.length : Int) + 1) && partOf z ds dep) := rfl
theorem part_run (ds : List PyData) (dep : Int) : partOf "run" ds dep = (isBetw (ds.getD 0 .none) 0 20 && isBetw (ds.getD 1 .none) (intOf (ds.getD 0 .none)) 20) := by
  unfold partOf
  rw [if_pos rfl]
theorem part_call {z : Str} (h : z = "call" ∨ z = "want") (ds : List PyData) (dep : Int) : partOf z ds dep = (isName (ds.getD 0 .none) && isName (ds.getD 1 .none)) := by
  unfold partOf
  rw [if_neg (by rcases h with rfl | rfl <;> decide), if_pos h]
theorem part_blocks {z : Str} (h : z = "maybe" ∨ z = "both") (ds : List PyData) (dep : Int) : partOf z ds dep = ds.all fun b => isBlock b (dep + 1) := by
  unfold partOf
  rw [if_neg (by rcases h with rfl | rfl <;> decide), if_neg (by rcases h with rfl | rfl <;> decide), if_pos h]
theorem part_else {z : Str} (h1 : ¬ z = "run") (h2 : ¬ (z = "call" ∨ z = "want")) (h3 : ¬ (z = "maybe" ∨ z = "both")) (ds : List PyData) (dep : Int) : partOf z ds dep = true := by
  unfold partOf
  rw [if_neg h1, if_neg h2, if_neg h3]
theorem dqA2 {K : PySem.W.Frag} {H : Hp} {xs : List V} {ds : List PyData} (h : DqA K H xs ds) (hl : ds.length = 2) : ∃ x1 x2 d1 d2, xs = [x1, x2] ∧ ds = [d1, d2] ∧ Dq K H x1 d1 ∧ Dq K H x2 d2 := by
  cases h with
  | nil => cases hl
  | cons h1 t =>
    cases t with
    | nil => cases hl
    | cons h2 t =>
      cases t with
      | nil => exact ⟨_, _, _, _, rfl, rfl, h1, h2⟩
      | cons _ _ => simp at hl
theorem sIx_one {xs : List V} (h : 1 ≤ xs.length) : ¬ (HT.sIx xs.length 0 (some (1 : Int)) = 0 ∧ HT.sIx xs.length xs.length none = xs.length) := by
  intro ⟨z, _⟩
  rw [show (some (1 : Int)) = some ((1 : Nat) : Int) from rfl, HT.sIx_nat] at z
  omega
theorem cut_one (x : V) (xs : List V) : cutV (x :: xs) (some (1 : Int)) none = xs := by
  unfold cutV
  simp [HT.sIx]
structure Sm (d : PyData) : Prop where
  nd : d.hasDict = false
  lay : d.canLay0 = true
  dp : d.depth ≤ 60
  wt : d.weight ≤ 100000
theorem Sm.shaped {d : PyData} (h : Sm d) : SeqAt.shaped d = true := by
  unfold SeqAt.shaped
  rw [h.lay, decide_eq_true (show d.depth ≤ 64 from Nat.le_trans h.dp (by decide))]
  rfl
theorem sm_all : ∀ {ds : List PyData}, PyData.hasDictAll ds = false → PyData.canLayAll0 ds = true → PyData.depthAll ds ≤ 60 → PyData.weightAll ds ≤ 100000 → ∀ d ∈ ds, Sm d
  | [], _, _, _, _, d, hd => by cases hd
  | e :: ds, h1, h2, h3, h4, d, hd => by
    simp only [PyData.hasDictAll, Bool.or_eq_false_iff] at h1
    simp only [PyData.canLayAll0, Bool.and_eq_true] at h2
    simp only [PyData.depthAll] at h3
    simp only [PyData.weightAll] at h4
    rcases List.mem_cons.mp hd with rfl | hd
    · exact ⟨h1.1, h2.1, by omega, by omega⟩
    · exact sm_all h1.2 h2.2 (by omega) (by omega) d hd
theorem Sm.elem {ds : List PyData} (h : Sm (.tuple ds)) : ∀ d ∈ ds, Sm d := by
  obtain ⟨h1, h2, h3, h4⟩ := h
  simp only [PyData.hasDict] at h1
  simp only [PyData.canLay0] at h2
  simp only [PyData.depth] at h3
  simp only [PyData.weight] at h4
  exact sm_all h1 h2 (by omega) h4
theorem len_wt : ∀ ds : List PyData, ds.length ≤ PyData.weightAll ds
  | [] => Nat.zero_le _
  | d :: ds => by
    have := len_wt ds
    simp only [PyData.weightAll, List.length_cons]
    omega
theorem Sm.len {ds : List PyData} (h : Sm (.tuple ds)) : ds.length ≤ 100000 := by
  have h4 := h.wt
  simp only [PyData.weight] at h4
  exact Nat.le_trans (len_wt ds) h4
theorem line_le {n : Nat} (h : n ≤ 100000) : n ≤ sizeLine := Nat.le_trans h (by decide)
def spBlock (K : PySem.W.Frag) : Sp := fun vs H Q _ => ∃ (v : V) (d : PyData) (dep : Int), vs = [v, .int dep] ∧ Dq K H v d ∧ Q (.bl (isBlock d dep)) H
def spPart (K : PySem.W.Frag) : Sp := fun vs H Q _ => ∃ (v : V) (d : PyData) (dep : Int), vs = [v, .int dep] ∧ Dq K H v d ∧ Sm d ∧ ∀ H', Same H H' → Q (.bl (isPart d dep)) H'
def callW (d : PyData) : Bool := match d with
  | .tuple (.str z :: _) => decide (z = "call" ∨ z = "want")
  | _ => false
def innerW (d : PyData) : List PyData := match d with
  | .tuple (.str z :: ds) => if z = "maybe" ∨ z = "both" then ds else []
  | _ => []
theorem inner_yes {z : Str} {ds : List PyData} (h : z = "maybe" ∨ z = "both") : innerW (.tuple (.str z :: ds)) = ds := if_pos h
theorem inner_no {z : Str} {ds : List PyData} (h : ¬ (z = "maybe" ∨ z = "both")) : innerW (.tuple (.str z :: ds)) = [] := if_neg h
theorem in_two (z a b : Str) : inV (.str z) [.str a, .str b] = decide (z = a ∨ z = b) := by
  show ((a == z) || ((b == z) || false)) = _
  rw [Bool.eq_iff_iff]
  simp only [Bool.or_false, Bool.or_eq_true, beq_iff_eq, decide_eq_true_eq]
  exact ⟨fun h => h.imp Eq.symm Eq.symm, fun h => h.imp Eq.symm Eq.symm⟩
/-- a tuple that begins with a text -/
def Headed (d : PyData) : Prop := ∃ z ds, d = .tuple (.str z :: ds)
def spCall (K : PySem.W.Frag) : Sp := fun vs H Q _ => ∃ (v : V) (d : PyData), vs = [v] ∧ Dq K H v d ∧ Headed d ∧ ∀ H', Same H H' → Q (.bl (callW d)) H'
def spInner (K : PySem.W.Frag) : Sp := fun vs H Q _ => ∃ (v : V) (d : PyData) (G : Hp), vs = [v] ∧ Same G H ∧ Dq K G v d ∧ Headed d ∧ ∀ p ys H', Same H H' → H p = none → H' p = some (.tup ys) → DqA K G ys (innerW d) → Q (.ref p) H'
structure PBlt (mg : Str → Option Value) (K : PySem.W.Frag) (w : World) (sz : Addr) : Prop where
  mrun : ∃ t, mg "MAX_RUN" = some (.int 20 t)
  mdep : ∃ t, mg "MAX_DEPTH" = some (.int 3 t)
  msz : mg "SIZES" = some (.ref sz)
  tab : KTab K w sz sizesV
theorem boot_tup : bootBuiltins "tuple" = some (.type "tuple") := by decide +kernel
theorem boot_str' : bootBuiltins "str" = some (.type "str") := by decide +kernel
theorem boot_all' : bootBuiltins "all" = some (.builtin "all") := by decide +kernel
section
variable {P : Program} {w : World} {K : PySem.W.Frag} {mg : Str → Option Value} {base : Heap} {f g : Addr} {fd gd : FuncData} {CX : CXT}
theorem sc_is_block : FnScope ["value", "depth"] ["value", "depth"] (defScope s_is_block) := ⟨rfl, rfl, rfl, by decide +kernel, rfl, by decide +kernel, by decide +kernel⟩
theorem ok_is_block {sz : Addr} (F : FnP K "is_block" s_is_block f fd) (B : Blt mg) (Z : PBlt mg K w sz) : FnOk P w K mg base CX0 1 f fd ["value", "depth"] (spBlock K) := by
  obtain ⟨t1, g1⟩ := Z.mdep
  refine F.ok sc_is_block (fun vs H Q E h => ?_) (fun cdv A outer s H vs Q E hr h => ?_)
  · obtain ⟨_, _, _, rfl, _⟩ := h
    rfl
  · obtain ⟨v, d, dep, rfl, hd, q⟩ := h
    refine ⟨_, pss_one (ps_ret (pe_and (pe_callB call_isD rfl B.isi boot_isinstance (pa_cons (pv 0) (pa_cons (pe_bltn (v := .ty "tuple") rfl B.tuple boot_tup rfl) pa_nil))) (pe_one (pe_cmpR op_lt (pv 1) (pe_glob (v := .int 3) rfl g1 ⟨_, rfl⟩) (nomark _))))), ?_⟩
    refine ⟨_, rfl, v, d, "tuple", rfl, hd, tok_tuple, _, rfl, ?_⟩
    rw [isA_tuple]
    unfold isBlock at q
    cases e : isTupD d with
    | true =>
      rw [e] at q
      exact iteT ⟨_, rfl, _, _, rfl, rfl, q⟩
    | false =>
      rw [e] at q
      exact iteF q
theorem sc_is_part : FnScope ["value", "depth", "block"] ["value", "depth"] (defScope s_is_part) := ⟨rfl, rfl, rfl, by decide +kernel, rfl, by decide +kernel, by decide +kernel⟩
theorem ok_is_part {sz g1 g2 g3 g4 : Addr} {e1 e2 e3 e4 : FuncData} (F : FnP K "is_part" s_is_part f fd) (B : Blt mg) (Z : PBlt mg K w sz) (G1 : FnP K "is_integer" s_is_integer g1 e1) (m1 : mg "is_integer" = some (.ref g1)) (G2 : FnP K "is_between" s_is_between g2 e2) (m2 : mg "is_between" = some (.ref g2))
    (G3 : FnP K "is_name" s_is_name g3 e3) (m3 : mg "is_name" = some (.ref g3)) (G4 : FnP K "is_block" s_is_block g4 e4) (m4 : mg "is_block" = some (.ref g4)) : FnOk P w K mg base CX0 3 f fd ["value", "depth"] (spPart K) := by
  obtain ⟨tr, gr⟩ := Z.mrun
  have b2 : Binds K e2 ["value", "low", "high"] [] := G2.bindsN fun _ _ _ _ _ _ us hl => match us, hl with | [_, _, _], _ => rfl
  have b3 : Binds K e3 ["value"] [] := G3.bindsN fun _ _ _ _ _ _ us hl => match us, hl with | [_], _ => rfl
  have b4 : Binds K e4 ["value", "depth"] [] := G4.bindsN fun _ _ _ _ _ _ us hl => match us, hl with | [_, _], _ => rfl
  have F2 : FnOk P w K mg base CX0 2 g2 e2 ["value", "low", "high"] (spBetw K) := ok_is_between G2 G1 m1 B
  have F3 : FnOk P w K mg base CX0 1 g3 e3 ["value"] (spName K) := ok_is_name G3 B
  have F4 : FnOk P w K mg base CX0 1 g4 e4 ["value", "depth"] (spBlock K) := ok_is_block G4 B Z
  refine F.ok sc_is_part (fun vs H Q E h => ?_) (fun cdv A outer s H vs Q E hr h => ?_)
  · obtain ⟨_, _, _, rfl, _⟩ := h
    rfl
  · obtain ⟨v, d, dep, rfl, hd, hs, q⟩ := h
    have hu := hr.units
    have hr1 := hr.mono (by decide : 1 ≤ 2)
    have hr2 := hr.mono (by decide : 2 ≤ 2)
    refine ⟨_, (pss_cons (ps_if (PW.pt (pw_or (pt_not (pt_val (pe_callB call_isD rfl B.isi boot_isinstance (pa_cons (pv 0) (pa_cons (pe_bltn (v := .ty "tuple") rfl B.tuple boot_tup rfl) pa_nil)))))
          (pw_or (pt_cmpR (op_eqD hu) (pv 0) (pe_tup pa_nil) (nomark _)) (pw_or1 (pt_not (pt_val (pe_callB call_isD rfl B.isi boot_isinstance (pa_cons (pe_ix ix_tup (pv 0) pe_int (fun _ _ => rfl)) (pa_cons (pe_bltn (v := .ty "str") rfl B.str boot_str' rfl) pa_nil))))))))) (pss_one (ps_ret pe_bl)) pss_nil)
      (pss_cons (ps_if (pt_cmpR op_ne (pe_kget2 Z.tab rfl Z.msz (pe_ix ix_tup (pv 0) pe_int (fun _ _ => rfl)) pe_int ⟨rfl, rfl, rfl, rfl⟩) (pe_callB call_len rfl B.len PySem.boot_len (pa_cons (pv 0) pa_nil)) (nomark _)) (pss_one (ps_ret pe_bl)) pss_nil)
      (pss_one (ps_match (pe_ix ix_tup (pv 0) pe_int (fun _ _ => rfl))
        (pm_str1 (pss_one (ps_ret (pe_and (pe_call F2 hr2 rfl m2 G2.kp b2 .nil pass0 (pa_cons (pe_ix ix_tup (pv 0) pe_int (fun _ _ => rfl)) (pa_cons pe_int (pa_cons (pe_glob (v := .int 20) rfl gr ⟨_, rfl⟩) pa_nil)))) (pe_one (pe_call F2 hr2 rfl m2 G2.kp b2 .nil pass0 (pa_cons (pe_ix ix_tup (pv 0) pe_int (fun _ _ => rfl)) (pa_cons (pe_ix ix_tup (pv 0) pe_int (fun _ _ => rfl)) (pa_cons (pe_glob (v := .int 20) rfl gr ⟨_, rfl⟩) pa_nil))))))))
        (pm_str2 (pss_one (ps_ret (pe_and (pe_call F3 hr1 rfl m3 G3.kp b3 .nil pass0 (pa_cons (pe_ix ix_tup (pv 0) pe_int (fun _ _ => rfl)) pa_nil)) (pe_one (pe_call F3 hr1 rfl m3 G3.kp b3 .nil pass0 (pa_cons (pe_ix ix_tup (pv 0) pe_int (fun _ _ => rfl)) pa_nil))))))
        (pm_str2 (pss_one (ps_ret (pe_callB (cr_all rfl) rfl B.all boot_all' (pa_cons (pe_lc (own := [("block", 2)]) (g := gName 2) (tt := tYes) rfl sc_is_part.nd (pi_tup (pe_slice sl_tup (pv 0) (po_some pe_int) po_none)) (blkOk_by (N := ["value", "depth", "block"]) (sc := defScope s_is_part) (by decide +kernel))
            (fun _ _ _ _ _ => pg_name (i := 2) sc_is_part.nd rfl (Or.inl rfl)) (fun _ _ _ _ _ => pts_nil) (fun _ _ _ _ _ => pe_call F4 hr1 rfl m4 G4.kp b4 .nil pass0 (pa_cons (pv 2) (pa_cons (pe_op op_add (pv 1) pe_int) pa_nil)))) pa_nil))))
        (pm_any (pss_one (ps_ret pe_bl)))))))))), ?_⟩
    refine ⟨_, rfl, v, d, "tuple", rfl, hd, tok_tuple, _, rfl, ?_⟩
    rw [isA_tuple]
    cases hd with
    | @tup a xs ds hsq ha =>
      refine iteF ⟨_, rfl, (by show 0 ≤ sizeLine; decide), fun p hp => ?_⟩
      have s1 : Same H (upd H p (.tup [])) := Same.new' hp
      have hsq1 := SqT.upT s1 hsq
      have ha1 := ha.up s1
      have hp1 : upd H p (.tup []) p = some (.tup []) := upd_same
      generalize upd H p (.tup []) = H1 at s1 hsq1 ha1 hp1 ⊢
      refine ⟨.tuple ds, .tuple [], (Dq.tup hsq1 ha1).dp hs.nd, .tup (SqT.of hp1) .nil, hs.shaped, (by decide +kernel), _, rfl, ?_⟩
      cases ha1 with
      | nil =>
        rw [show PyData.eqv (.tuple []) (.tuple []) = true from by simp [PyData.eqv, PyData.eqvAll]]
        exact iteT (q _ s1)
      | @cons x0 xs d0 ds h0 hr0 =>
        rw [show PyData.eqv (.tuple (d0 :: ds)) (.tuple []) = false from by simp [PyData.eqv, PyData.eqvAll]]
        refine iteF ⟨_, rfl, a, _, 0, x0, rfl, rfl, hsq1, at0, x0, d0, "str", rfl, h0, tok_str, _, rfl, ?_⟩
        rw [isA_str]
        cases h0 with
        | str z hz =>
          refine iteF ⟨_, rfl, a, _, 0, _, rfl, rfl, hsq1, at0, z, rfl, ?_⟩
          rw [sizes_getD]
          have el : xs.length = ds.length := hr0.len
          refine ⟨_, rfl, _, _, rfl, .inr ⟨_, hsq1, rfl⟩, rfl, _, rfl, ?_⟩
          by_cases hz2 : (sizes z).getD 0 = (ds.length : Int) + 1
          · have qp : ∀ H', Same H H' → Q (.bl (partOf z ds dep)) H' := fun H' s' => by
              have w := q H' s'
              rw [isPart_str, decide_eq_true hz2] at w
              exact w
            refine iteNY (congrArg V.int (by rw [hz2, List.length_cons, el]; omega)) ?_
            refine ⟨_, rfl, a, _, 0, _, rfl, rfl, hsq1, at0, z, rfl, fun m => ?_, fun n1 => ⟨z, rfl, fun m => ?_, fun n2 => ⟨z, rfl, fun m => ?_, fun n3 => ?_⟩⟩⟩
            · obtain rfl : z = "run" := by simpa using m
              have hl2 : ds.length = 2 := by
                have e : (sizes "run").getD 0 = (3 : Int) := by decide +kernel
                rw [e] at hz2
                omega
              obtain ⟨x1, x2, d1, d2, rfl, rfl, h1, h2⟩ := dqA2 hr0 hl2
              · skip
                refine ⟨_, rfl, a, _, 1, x1, rfl, rfl, hsq1, rfl, x1, d1, 0, 20, rfl, h1, _, rfl, ?_⟩
                have w := qp _ s1
                rw [part_run] at w
                cases e : isBetw d1 0 20 with
                | false =>
                  rw [show (List.getD [d1, d2] 0 PyData.none) = d1 from rfl, e] at w
                  exact iteF w
                | true =>
                  rw [show (List.getD [d1, d2] 0 PyData.none) = d1 from rfl, e] at w
                  obtain ⟨i, rfl, _, _⟩ := isBetw_int e
                  cases h1
                  exact iteT ⟨_, rfl, a, _, 2, x2, rfl, rfl, hsq1, rfl, _, rfl, a, _, 1, _, rfl, rfl, hsq1, rfl, x2, d2, i, 20, rfl, h2, w⟩
            · have hzz : z = "call" ∨ z = "want" := by simpa using m
              have hl2 : ds.length = 2 := by
                have e : (sizes z).getD 0 = (3 : Int) := by rcases hzz with rfl | rfl <;> decide +kernel
                rw [e] at hz2
                omega
              obtain ⟨x1, x2, d1, d2, rfl, rfl, h1, h2⟩ := dqA2 hr0 hl2
              · skip
                refine ⟨_, rfl, a, _, 1, x1, rfl, rfl, hsq1, rfl, x1, d1, rfl, h1, fun H2 s2 => ⟨_, rfl, ?_⟩⟩
                have w := fun H' s' => qp H' ((s1.trans s2).trans s')
                rw [part_call hzz] at w
                cases e : isName d1 with
                | false =>
                  rw [show (List.getD [d1, d2] 0 PyData.none) = d1 from rfl, e] at w
                  exact iteF (w _ (Same.refl _))
                | true =>
                  rw [show (List.getD [d1, d2] 0 PyData.none) = d1 from rfl, e] at w
                  exact iteT ⟨_, rfl, a, _, 2, x2, rfl, rfl, SqT.upT s2 hsq1, rfl, x2, d2, rfl, h2.up s2, fun H3 s3 => w H3 s3⟩
            · have hzz : z = "maybe" ∨ z = "both" := by simpa using m
              have hlp : 1 ≤ ds.length := by
                have e : (2 : Int) ≤ (sizes z).getD 0 := by rcases hzz with rfl | rfl <;> decide +kernel
                rw [hz2] at e
                omega
              have hlx : 1 ≤ xs.length := by rw [el]; exact hlp
              rw [part_blocks hzz] at qp
              refine ⟨_, rfl, 1, rfl, a, _, rfl, hsq1, ?_, fun p2 hp2 => ?_⟩
              · exact sIx_one (by show 1 ≤ (V.str z :: xs).length; simp)
              · rw [cut_one]
                have s2 : Same H1 (upd H1 p2 (.tup xs)) := Same.new' hp2
                have hp3 : upd H1 p2 (.tup xs) p2 = some (.tup xs) := upd_same
                have ha2 := hr0.up s2
                generalize upd H1 p2 (.tup xs) = H2 at s2 hp3 ha2 ⊢
                refine ⟨p2, rfl, ⟨_, SqT.of hp3⟩, fun D hD => ?_⟩
                have hlen : xs.length ≤ sizeLine := by
                  have := hs.len
                  rw [List.length_cons] at this
                  exact line_le (by omega)
                refine lc_map walk_tup (ds.map fun e => V.bl (isBlock e (dep + 1))) (by rw [List.length_map, el]) hlen (fun acc => SqT.upT (Same.new hD) (SqT.of hp3)) (fun _ => rfl) (fun i y acc Q' hi hy k => ?_) ?_
                · obtain ⟨e, he, hye⟩ := ha2.at hy
                  refine ⟨_, rfl, _, rfl, _, _, rfl, rfl, y, e, dep + 1, rfl, hye.up (Same.new hD), k _ ?_⟩
                  rw [List.getElem?_map, he]
                  rfl
                · refine ⟨D, ds.map fun e => isBlock e (dep + 1), rfl, SqL.of (by rw [upd_same, List.map_map]; rfl), ?_⟩
                  have e : (ds.map fun e => isBlock e (dep + 1)).all id = ds.all fun e => isBlock e (dep + 1) := by rw [List.all_map]; rfl
                  rw [e]
                  exact qp _ ((s1.trans s2).trans (Same.new hD))
            · have w := qp _ s1
              rw [part_else (by simpa using n1) (by simpa using n2) (by simpa using n3)] at w
              exact w
          · refine iteNN (fun e => hz2 (by have e' := V.int.inj e; rw [List.length_cons, el] at e'; omega)) ?_
            have w := q _ s1
            rw [isPart_str, decide_eq_false hz2] at w
            exact w
        | _ => exact iteT (q _ s1)
    | _ => exact iteT (q _ (Same.refl H))
theorem sc_is_call : FnScope ["part"] ["part"] (defScope s_is_call) := ⟨rfl, rfl, rfl, by decide +kernel, rfl, by decide +kernel, by decide +kernel⟩
theorem ok_is_call (F : FnP K "is_call" s_is_call f fd) : FnOk P w K mg base CX0 1 f fd ["part"] (spCall K) := by
  refine F.ok sc_is_call (fun vs H Q E h => ?_) (fun cdv A outer s H vs Q E hr h => ?_)
  · obtain ⟨_, _, rfl, _⟩ := h
    rfl
  · obtain ⟨v, d, rfl, hd, ⟨z, ds, rfl⟩, q⟩ := h
    refine ⟨_, pss_one (ps_ret (pe_cmpR op_in_seq (pe_ix ix_tup (pv 0) pe_int (fun _ _ => rfl)) (pe_tup (pa_cons pe_str (pa_cons pe_str pa_nil))) (by rfl))), ?_⟩
    cases hd with
    | @tup a xs _ hsq ha =>
      cases ha with
      | cons h0 hr0 =>
        cases h0
        refine ⟨_, rfl, a, _, 0, _, rfl, rfl, hsq, at0, (by show 2 ≤ sizeLine; decide), fun p hp => ⟨p, _, rfl, .inr (SqT.of upd_same), rfl, (by decide), ?_⟩⟩
        rw [in_two]
        exact q _ (Same.new' hp)
theorem sc_blocks_of : FnScope ["part"] ["part"] (defScope s_blocks_of) := ⟨rfl, rfl, rfl, by decide +kernel, rfl, by decide +kernel, by decide +kernel⟩
theorem ok_blocks_of (F : FnP K "blocks_of" s_blocks_of f fd) : FnOk P w K mg base CX0 1 f fd ["part"] (spInner K) := by
  refine F.ok sc_blocks_of (fun vs H Q E h => ?_) (fun cdv A outer s H vs Q E hr h => ?_)
  · obtain ⟨_, _, _, rfl, _⟩ := h
    rfl
  · obtain ⟨v, d, G, rfl, sG, hd, ⟨z, ds, rfl⟩, q⟩ := h
    refine ⟨_, pss_one (ps_ret (pe_ifExp (pt_cmpR op_in_seq (pe_ix ix_tup (pv 0) pe_int (fun _ _ => rfl)) (pe_tup (pa_cons pe_str (pa_cons pe_str pa_nil))) (by rfl)) (pe_slice sl_tup (pv 0) (po_some pe_int) po_none) (pe_tup pa_nil))), ?_⟩
    cases hd with
    | @tup a xs _ hsq ha =>
      cases ha with
      | @cons _ xs _ _ h0 hr0 =>
        cases h0
        refine ⟨_, rfl, a, _, 0, _, rfl, rfl, SqT.upT sG hsq, at0, (by show 2 ≤ sizeLine; decide), fun p hp => ⟨p, _, rfl, .inr (SqT.of upd_same), rfl, (by decide), _, rfl, ?_⟩⟩
        rw [in_two]
        have s1 : Same H (upd H p (.tup [.str "maybe", .str "both"])) := Same.new' hp
        have hsq1 := SqT.upT (sG.trans s1) hsq
        generalize upd H p (.tup [.str "maybe", .str "both"]) = H1 at s1 hsq1 ⊢
        by_cases hz : z = "maybe" ∨ z = "both"
        · rw [inner_yes hz] at q
          refine iteY hz ⟨_, rfl, 1, rfl, a, _, rfl, hsq1, sIx_one (by show 1 ≤ (V.str z :: xs).length; simp), fun p2 hp2 => ?_⟩
          rw [cut_one]
          exact q _ _ _ (s1.trans (Same.new' hp2)) (s1.free hp2) upd_same hr0
        · rw [inner_no hz] at q
          exact iteN hz ⟨(by show 0 ≤ sizeLine; decide), fun p2 hp2 => q _ _ _ (s1.trans (Same.new' hp2)) (s1.free hp2) upd_same .nil⟩
end
end K07
namespace K07
open PySem PySem.Spec PyProof.Rows L2
abbrev s_numbered : Stmt := top 23
abbrev s_parts_of : Stmt := top 24
/-! ### the parts in the order in which they begin -/
abbrev Row : Type := Int × PyData × Int
def rowD (r : Row) : PyData := .tuple [.int r.1, r.2.1, .int r.2.2]
def elems : PyData → List PyData | .tuple ds => ds | _ => []
def badRow (r : Row) : Bool := !isPart r.2.1 r.2.2
def badLast (rs : List Row) : Bool := match rs.getLast? with
  | some r => badRow r
  | none => false
def numI (g : List PyData → Int → List Row) (first : Int) : List PyData → List Row → List Row × Bool
  | [], acc => (acc, false)
  | b :: bs, acc => if badLast (acc ++ g (elems b) (first + acc.length)) then (acc ++ g (elems b) (first + acc.length), true) else numI g first bs (acc ++ g (elems b) (first + acc.length))
def numL (g : List PyData → Int → List Row) (dep first : Int) : List PyData → List Row → List Row
  | [], acc => acc
  | d :: ds, acc => if isPart d dep then (if (numI g first (innerW d) (acc ++ [(first + acc.length, d, dep)])).2 then (numI g first (innerW d) (acc ++ [(first + acc.length, d, dep)])).1 else numL g dep first ds (numI g first (innerW d) (acc ++ [(first + acc.length, d, dep)])).1)
      else acc ++ [(first + acc.length, d, dep)]
def num : Nat → List PyData → Int → Int → List Row
  | 0, _, _, _ => []
  | n + 1, ds, first, dep => numL (fun xs f => num n xs f (dep + 1)) dep first ds []
theorem isPart_head {d : PyData} {dep : Int} (h : isPart d dep = true) : Headed d := by
  unfold isPart at h
  split at h
  · exact ⟨_, _, rfl⟩
  · cases h
theorem part_inner {d : PyData} {dep : Int} (h : isPart d dep = true) : ∀ b ∈ innerW d, ∃ xs, b = .tuple xs ∧ dep + 1 < 3 := by
  obtain ⟨z, ds, rfl⟩ := isPart_head h
  intro b hb
  by_cases hz : z = "maybe" ∨ z = "both"
  · rw [inner_yes hz] at hb
    rw [isPart_str, part_blocks hz, Bool.and_eq_true, List.all_eq_true] at h
    have w := h.2 b hb
    unfold isBlock at w
    rw [Bool.and_eq_true, decide_eq_true_eq] at w
    cases b with
    | tuple xs => exact ⟨xs, rfl, w.2⟩
    | _ => exact nomatch (show false = true from w.1)
  · rw [inner_no hz] at hb
    cases hb
/-! how many rows: never more than the block's weight -/
theorem wt_inner {d : PyData} : PyData.weightAll (innerW d) ≤ d.weight := by
  unfold innerW
  split
  · split
    · simp only [PyData.weight, PyData.weightAll]
      omega
    · exact Nat.zero_le _
  · exact Nat.zero_le _
theorem wt_elems (b : PyData) : PyData.weightAll (elems b) ≤ b.weight := by
  cases b with
  | tuple ds => simp [elems, PyData.weight]
  | _ => exact Nat.zero_le _
theorem numI_len {g : List PyData → Int → List Row} {first : Int} (hg : ∀ xs f, (g xs f).length ≤ PyData.weightAll xs) : ∀ (bs : List PyData) (acc : List Row), (numI g first bs acc).1.length ≤ acc.length + PyData.weightAll bs
  | [], acc => Nat.le_add_right _ _
  | b :: bs, acc => by
    have w := hg (elems b) (first + acc.length)
    have w2 := wt_elems b
    unfold numI
    split
    · simp only [List.length_append, PyData.weightAll]
      omega
    · have z := numI_len (first := first) hg bs (acc ++ g (elems b) (first + acc.length))
      simp only [List.length_append] at z
      simp only [PyData.weightAll]
      omega
theorem numL_len {g : List PyData → Int → List Row} {dep first : Int} (hg : ∀ xs f, (g xs f).length ≤ PyData.weightAll xs) : ∀ (ds : List PyData) (acc : List Row), (numL g dep first ds acc).length ≤ acc.length + PyData.weightAll ds
  | [], acc => Nat.le_add_right _ _
  | d :: ds, acc => by
    have w := numI_len (first := first) hg (innerW d) (acc ++ [(first + acc.length, d, dep)])
    have w2 := wt_inner (d := d)
    simp only [List.length_append, List.length_cons, List.length_nil] at w
    unfold numL
    split
    · split
      · simp only [PyData.weightAll]
        omega
      · have z := numL_len (dep := dep) (first := first) hg ds (numI g first (innerW d) (acc ++ [(first + acc.length, d, dep)])).1
        simp only [PyData.weightAll]
        omega
    · simp only [List.length_append, List.length_cons, List.length_nil, PyData.weightAll]
      omega
theorem numI_ge {g : List PyData → Int → List Row} {first : Int} : ∀ (bs : List PyData) (acc : List Row), acc.length ≤ (numI g first bs acc).1.length
  | [], acc => Nat.le_refl _
  | b :: bs, acc => by
    unfold numI
    split
    · simp
    · have z := numI_ge (g := g) (first := first) bs (acc ++ g (elems b) (first + acc.length))
      simp only [List.length_append] at z
      omega
theorem numI_ge1 {g : List PyData → Int → List Row} {first : Int} (b : PyData) (bs : List PyData) (acc : List Row) : (acc ++ g (elems b) (first + acc.length)).length ≤ (numI g first (b :: bs) acc).1.length := by
  rw [numI]
  split
  · exact Nat.le_refl _
  · exact numI_ge _ _
theorem numL_ge {g : List PyData → Int → List Row} {dep first : Int} : ∀ (ds : List PyData) (acc : List Row), acc.length ≤ (numL g dep first ds acc).length
  | [], acc => Nat.le_refl _
  | d :: ds, acc => by
    have w := numI_ge (g := g) (first := first) (innerW d) (acc ++ [(first + acc.length, d, dep)])
    simp only [List.length_append, List.length_cons, List.length_nil] at w
    unfold numL
    split
    · split
      · omega
      · have z := numL_ge (g := g) (dep := dep) (first := first) ds (numI g first (innerW d) (acc ++ [(first + acc.length, d, dep)])).1
        omega
    · simp
theorem numL_no {g : List PyData → Int → List Row} {dep first : Int} {d : PyData} {ds : List PyData} {acc : List Row} (h : isPart d dep = false) : numL g dep first (d :: ds) acc = acc ++ [(first + acc.length, d, dep)] := by
  rw [numL, if_neg (by rw [h]; decide)]
theorem numL_stop {g : List PyData → Int → List Row} {dep first : Int} {d : PyData} {ds : List PyData} {acc R : List Row} (h : isPart d dep = true) (e : numI g first (innerW d) (acc ++ [(first + acc.length, d, dep)]) = (R, true)) : numL g dep first (d :: ds) acc = R := by
  rw [numL, if_pos h, e, if_pos rfl]
theorem numL_go {g : List PyData → Int → List Row} {dep first : Int} {d : PyData} {ds : List PyData} {acc R : List Row} (h : isPart d dep = true) (e : numI g first (innerW d) (acc ++ [(first + acc.length, d, dep)]) = (R, false)) : numL g dep first (d :: ds) acc = numL g dep first ds R := by
  rw [numL, if_pos h, e, if_neg (by exact Bool.false_ne_true)]
theorem numL_gei {g : List PyData → Int → List Row} {dep first : Int} {d : PyData} {ds : List PyData} {acc : List Row} (h : isPart d dep = true) : (numI g first (innerW d) (acc ++ [(first + acc.length, d, dep)])).1.length ≤ (numL g dep first (d :: ds) acc).length := by
  rw [numL, if_pos h]
  split
  · exact Nat.le_refl _
  · exact numL_ge _ _
theorem sm_inner {d : PyData} (h : Sm d) : ∀ b ∈ innerW d, Sm b := by
  intro b hb
  unfold innerW at hb
  split at hb
  · split at hb
    · exact h.elem b (List.mem_cons_of_mem _ hb)
    · cases hb
  · cases hb
def AllSm (rs : List Row) : Prop := ∀ r ∈ rs, Sm r.2.1
theorem AllSm.app {a b : List Row} (h : AllSm a) (k : AllSm b) : AllSm (a ++ b) := fun r hr => (List.mem_append.mp hr).elim (h r) (k r)
theorem sm_elems {b : PyData} (h : Sm b) : ∀ d ∈ elems b, Sm d := by
  cases b with
  | tuple ds => exact h.elem
  | _ => intro d hd; cases hd
theorem numI_sm {g : List PyData → Int → List Row} {first : Int} (hg : ∀ xs f, (∀ d ∈ xs, Sm d) → AllSm (g xs f)) : ∀ (bs : List PyData) (acc : List Row), (∀ b ∈ bs, Sm b) → AllSm acc → AllSm (numI g first bs acc).1
  | [], acc, _, h => h
  | b :: bs, acc, hb, h => by
    have k : AllSm (acc ++ g (elems b) (first + acc.length)) := h.app (hg _ _ (sm_elems (hb b List.mem_cons_self)))
    unfold numI
    split
    · exact k
    · exact numI_sm hg bs _ (fun c hc => hb c (List.mem_cons_of_mem _ hc)) k
theorem numL_sm {g : List PyData → Int → List Row} {dep first : Int} (hg : ∀ xs f, (∀ d ∈ xs, Sm d) → AllSm (g xs f)) : ∀ (ds : List PyData) (acc : List Row), (∀ b ∈ ds, Sm b) → AllSm acc → AllSm (numL g dep first ds acc)
  | [], acc, _, h => h
  | d :: ds, acc, hb, h => by
    have sd := hb d List.mem_cons_self
    have k : AllSm (acc ++ [(first + acc.length, d, dep)]) := h.app (fun r hr => by simp at hr; subst hr; exact sd)
    have k2 := numI_sm (first := first) hg (innerW d) _ (sm_inner sd) k
    unfold numL
    split
    · split
      · exact k2
      · exact numL_sm hg ds _ (fun c hc => hb c (List.mem_cons_of_mem _ hc)) k2
    · exact k
theorem num_sm : ∀ (n : Nat) (ds : List PyData) (first dep : Int), (∀ d ∈ ds, Sm d) → AllSm (num n ds first dep)
  | 0, _, _, _, _ => fun r hr => by cases hr
  | n + 1, ds, first, dep, h => numL_sm (fun xs f hx => num_sm n xs f (dep + 1) hx) ds [] h (fun r hr => by cases hr)
theorem badLast_app (rs : List Row) (r : Row) : badLast (rs ++ [r]) = badRow r := by
  unfold badLast
  rw [List.getLast?_append]
  rfl
theorem ex_last {α : Type} : ∀ {l : List α}, l ≠ [] → ∃ f x, l = f ++ [x] := fun {l} h => ⟨l.dropLast, l.getLast h, (List.dropLast_concat_getLast h).symm⟩
theorem num_len : ∀ (n : Nat) (ds : List PyData) (first dep : Int), (num n ds first dep).length ≤ PyData.weightAll ds
  | 0, _, _, _ => Nat.zero_le _
  | n + 1, ds, first, dep => by
    have z := numL_len (dep := dep) (first := first) (g := fun xs f => num n xs f (dep + 1)) (fun xs f => num_len n xs f (dep + 1)) ds []
    show (numL (fun xs f => num n xs f (dep + 1)) dep first ds []).length ≤ _
    simpa using z
/-- what stood in G, and what is new since H -/
def mix (G H H' : Hp) : Hp := fun b => if H b = none then H' b else G b
theorem mix_new {G H H' : Hp} {b : Addr} {u : HO} (h : H b = none) (e : H' b = some u) : mix G H H' b = some u := by
  unfold mix
  rw [if_pos h]
  exact e
theorem mix_old {G H H' : Hp} (s : Same G H) : Same G (mix G H H') := fun b u e => by
  unfold mix
  rw [if_neg (by rw [s b u e]; simp)]
  exact e
theorem mix_in {H H' : Hp} (s : Same H H') : Same (mix H H H') H' := fun b u e => by
  unfold mix at e
  split at e
  · exact e
  · exact s b u e
theorem mix_cases {G H H' : Hp} {b : Addr} {u : HO} (e : mix G H H' b = some u) : (H b = none ∧ H' b = some u) ∨ (H b ≠ none ∧ G b = some u) := by
  unfold mix at e
  split at e
  · exact .inl ⟨by assumption, e⟩
  · exact .inr ⟨by assumption, e⟩
def spNum (K : PySem.W.Frag) (n : Nat) : Sp := fun vs H Q _ => ∃ (v : V) (ds : List PyData) (first dep : Int) (G : Hp), vs = [v, .int first, .int dep] ∧ Same G H ∧ Dq K G v (.tuple ds) ∧ Sm (.tuple ds) ∧ 0 < n ∧ dep + n = 3 ∧
  ∀ r xs H', Same H H' → H r = none → H' r = some (.lst xs) → DqA K (mix G H H') xs ((num n ds first dep).map rowD) → Q (.ref r) H'
theorem hid_to {p : Addr} {H : Hp} {o : HO} : Same (hid p H) (upd H p o) := fun b u e => by
  unfold hid at e
  by_cases z : b = p
  · rw [if_pos z] at e; cases e
  · rw [if_neg z] at e
    rw [upd_ne z]
    exact e
theorem to_hid {p : Addr} {H H' : Hp} (s : Same H H') (h : H p = none) : Same H (hid p H') := fun b u e => by
  unfold hid
  rw [if_neg (ne_of_none e h)]
  exact s b u e
theorem hid_hid {p : Addr} {H : Hp} {o : HO} : hid p (upd H p o) = hid p H := by
  funext b
  unfold hid
  by_cases z : b = p
  · rw [if_pos z, if_pos z]
  · rw [if_neg z, if_neg z, upd_ne z]
theorem hid_mono {p : Addr} {H H' : Hp} (s : Same H H') : Same (hid p H) (hid p H') := fun b u e => by
  unfold hid at e ⊢
  by_cases z : b = p
  · rw [if_pos z] at e; cases e
  · rw [if_neg z] at e ⊢
    exact s b u e
theorem DqA.app {K : PySem.W.Frag} {H : Hp} : ∀ {vs ws : List V} {ds es : List PyData}, DqA K H vs ds → DqA K H ws es → DqA K H (vs ++ ws) (ds ++ es)
  | _, _, _, _, .nil, r => r
  | _, _, _, _, .cons h t, r => .cons h (DqA.app t r)
theorem dqA_last {K : PySem.W.Frag} {H : Hp} : ∀ {zs : List V} {ds : List PyData} {d : PyData}, DqA K H zs (ds ++ [d]) → ∃ zf vl, zs = zf ++ [vl] ∧ Dq K H vl d
  | _, [], _, .cons h .nil => ⟨[], _, rfl, h⟩
  | _, _ :: ds, d, .cons h t => by
    obtain ⟨zf, vl, e, k⟩ := dqA_last (ds := ds) t
    exact ⟨_ :: zf, vl, by rw [e]; rfl, k⟩
theorem dqA_row {K : PySem.W.Frag} {H : Hp} {tl : List V} {a b : Int} {d : PyData} (h : DqA K H tl [.int a, d, .int b]) : ∃ wv, tl = [.int a, wv, .int b] ∧ Dq K H wv d := by
  cases h with
  | cons h1 t =>
    cases t with
    | cons h2 t =>
      cases t with
      | cons h3 t =>
        cases t
        cases h1
        cases h3
        exact ⟨_, rfl, h2⟩
section
variable {P : Program} {w : World} {K : PySem.W.Frag} {mg : Str → Option Value} {base : Heap} {f g : Addr} {fd gd : FuncData} {CX : CXT}
theorem sc_numbered : FnScope ["block", "first", "depth", "rows", "part", "inner"] ["block", "first", "depth"] (defScope s_numbered) := ⟨rfl, rfl, rfl, by decide +kernel, rfl, by decide +kernel, by decide +kernel⟩
theorem ok_num0 : FnOk P w K mg base CX0 3 f fd ["block", "first", "depth"] (spNum K 0) :=
  ⟨fun vs H Q E h => absurd h.choose_spec.choose_spec.choose_spec.choose_spec.choose_spec.2.2.2.2.1 (by decide), fun A o s H a us vs Q E hr e0 hb rv h => absurd h.choose_spec.choose_spec.choose_spec.choose_spec.choose_spec.2.2.2.2.1 (by decide)⟩
theorem ok_num_step {n : Nat} {gP gI : Addr} {eP eI : FuncData} (F : FnP K "numbered" s_numbered f fd) (mF : mg "numbered" = some (.ref f)) (mlen : mg "len" = none) (GP : FnP K "is_part" s_is_part gP eP) (mP : mg "is_part" = some (.ref gP)) (FP : FnOk P w K mg base CX0 3 gP eP ["value", "depth"] (spPart K))
    (GI : FnP K "blocks_of" s_blocks_of gI eI) (mI : mg "blocks_of" = some (.ref gI)) (FR : FnOk P w K mg base CX0 (n + 3) f fd ["block", "first", "depth"] (spNum K n)) : FnOk P w K mg base CX0 (n + 4) f fd ["block", "first", "depth"] (spNum K (n + 1)) := by
  have bP : Binds K eP ["value", "depth"] [] := GP.bindsN fun _ _ _ _ _ _ us hl => match us, hl with | [_, _], _ => rfl
  have bI : Binds K eI ["part"] [] := GI.bindsN fun _ _ _ _ _ _ us hl => match us, hl with | [_], _ => rfl
  have bF : Binds K fd ["block", "first", "depth"] [] := F.bindsN fun _ _ _ _ _ _ us hl => match us, hl with | [_, _, _], _ => rfl
  have FI : FnOk P w K mg base CX0 1 gI eI ["part"] (spInner K) := ok_blocks_of GI
  refine F.ok sc_numbered (fun vs H Q E h => ?_) (fun cdv A outer s H vs Q E hr h => ?_)
  · obtain ⟨_, _, _, _, _, rfl, _⟩ := h
    rfl
  · obtain ⟨v, ds, first, dep, G, rfl, sG, hd, hs, _, hdep, q⟩ := h
    have hr3 := hr.mono (by omega : 3 ≤ n + 3)
    have hr1 := hr.mono (by omega : 1 ≤ n + 3)
    refine ⟨_, PSs.nox (pss_cons (ps_set (i := 3) sc_numbered.nd rfl (Or.inl rfl) (pe_lst pa_nil))
      (pss_cons (ps_for PassesOwn.never rfl (pi_tup (pv 0)) (pg_name (i := 4) sc_numbered.nd rfl (Or.inl rfl))
        (pss_cons (ps_expr (pe_bm PySem.F.plainAttrs_list PySem.F.slot_list_append PySem.F.type_list_append mt_append (pv 3) (pa_cons (pe_tup (pa_cons (pe_op op_add (pv 1) (pe_callB call_len rfl mlen PySem.boot_len (pa_cons (pv 3) pa_nil))) (pa_cons (pv 4) (pa_cons (pv 2) pa_nil)))) pa_nil)))
        (pss_cons (ps_if (pt_not (pt_val (pe_call FP hr3 rfl mP GP.kp bP .nil pass0 (pa_cons (pv 4) (pa_cons (pv 2) pa_nil))))) (pss_one (ps_ret (pv 3))) pss_nil)
        (pss_one (ps_for PassesOwn.never rfl (pi_tup (pe_call FI hr1 rfl mI GI.kp bI .nil pass0 (pa_cons (pv 4) pa_nil))) (pg_name (i := 5) sc_numbered.nd rfl (Or.inl rfl))
          (pss_cons (ps_expr (pe_bm PySem.F.plainAttrs_list PySem.F.slot_list_extend PySem.F.type_list_extend mt_extend (pv 3) (pa_cons (pe_call FR hr rfl mF F.kp bF .nil pass0 (pa_cons (pv 5) (pa_cons (pe_op op_add (pv 1) (pe_callB call_len rfl mlen PySem.boot_len (pa_cons (pv 3) pa_nil))) (pa_cons (pe_op op_add (pv 2) pe_int) pa_nil)))) pa_nil)))
          (pss_one (ps_if (pt_not (pt_val (pe_call FP hr3 rfl mP GP.kp bP .nil pass0 (pa_cons (pe_ix ix_tup (pe_ix ix_list (pv 3) (pe_un un_neg pe_int) (fun _ _ => rfl)) pe_int (fun _ _ => rfl)) (pa_cons (pe_ix ix_tup (pe_ix ix_list (pv 3) (pe_un un_neg pe_int) (fun _ _ => rfl)) pe_int (fun _ _ => rfl)) pa_nil))))) (pss_one (ps_ret (pv 3))) pss_nil))))))))
      (pss_one (ps_ret (pv 3))))), ?_⟩
    cases hd with
    | @tup a xs _ hsq ha =>
      refine ⟨(by show 0 ≤ sizeLine; decide), fun r hr0 => ?_⟩
      have ne : ∀ {b : Addr} {u : HO}, G b = some u → b ≠ r := fun e => ne_of_none (sG _ _ e) hr0
      have el := ha.len
      have toM : ∀ {H' : Hp}, Same G (hid r (mix G H H')) := fun {H'} => to_hid (mix_old sG) (by
        cases e : G r with
        | none => rfl
        | some u => exact absurd rfl (ne e))
      have upM : ∀ {H1 H2 : Hp}, (∀ b u, b ≠ r → H b = none → H1 b = some u → H2 b = some u) → Same (hid r (mix G H H1)) (hid r (mix G H H2)) := fun {H1 H2} k b u e => by
        unfold hid at e ⊢
        by_cases z : b = r
        · rw [if_pos z] at e; cases e
        · rw [if_neg z] at e ⊢
          rcases mix_cases e with ⟨h1, h2⟩ | ⟨h1, h2⟩
          · exact mix_new h1 (k b u z h1 h2)
          · exact mix_old sG b u h2
      let Gn : List PyData → Int → List Row := fun ys f => num n ys f (dep + 1)
      have hGn : ∀ ys f, (Gn ys f).length ≤ PyData.weightAll ys := fun ys f => num_len n ys f (dep + 1)
      have wds : PyData.weightAll ds ≤ 100000 := by
        have := hs.wt
        simpa only [PyData.weight] using this
      have finl : (num (n + 1) ds first dep).length ≤ 100000 := Nat.le_trans (num_len _ _ _ _) wds
      refine ⟨_, rfl, a, rfl, ⟨_, SqT.upT (sG.trans (Same.new' hr0)) hsq⟩, for_tup (xs := xs)
        (fun i σ H' => ∃ acc zs o4 o5, σ = [some (.ref a), some (.int first), some (.int dep), some (.ref r), o4, o5] ∧ Same H H' ∧ H' r = some (.lst zs) ∧ DqA K (hid r (mix G H H')) zs (acc.map rowD) ∧ AllSm acc ∧ numL Gn dep first (ds.drop i) acc = num (n + 1) ds first dep)
        ⟨[], [], _, _, rfl, Same.new' hr0, upd_same, .nil, (fun r hr => by cases hr), rfl⟩ (fun i σ H' hi hP => ?_) (fun i x σ H' hx hP => ?_) (fun σ H' hP => ?_)⟩
      · obtain ⟨_, _, _, _, _, sH, _⟩ := hP
        exact SqT.upT (sG.trans sH) hsq
      · obtain ⟨acc, zs, o4, o5, rfl, sH, hz, hA, hSm, hN⟩ := hP
        obtain ⟨d, hdi, hxd⟩ := ha.at hx
        have hid' : i < ds.length := (List.getElem?_eq_some_iff.mp hdi).1
        have edr : ds.drop i = d :: ds.drop (i + 1) := by
          rw [List.drop_eq_getElem_cons hid']
          have := (List.getElem?_eq_some_iff.mp hdi).2
          rw [this]
        rw [edr] at hN
        have zl : zs.length = acc.length := by rw [hA.len, List.length_map]
        have smd : Sm d := hs.elem d (List.mem_of_getElem? hdi)
        have fle : acc.length + 1 ≤ 100000 := by
          have z := numI_ge (g := Gn) (first := first) (innerW d) (acc ++ [(first + acc.length, d, dep)])
          simp only [List.length_append, List.length_cons, List.length_nil] at z
          cases e : isPart d dep with
          | true =>
            have y := numL_gei (g := Gn) (dep := dep) (first := first) (ds := ds.drop (i + 1)) (acc := acc) e
            rw [hN] at y
            omega
          | false =>
            rw [numL_no e] at hN
            rw [← hN] at finl
            simp only [List.length_append, List.length_cons, List.length_nil] at finl
            omega
        refine ⟨_, rfl, .inl ⟨rfl, _, SqL.of hz⟩, _, rfl, _, rfl, _, _, rfl, .inl ⟨_, SqL.of hz, rfl⟩, _, _, rfl, rfl, _, rfl, _, rfl, (by show 3 ≤ sizeLine; decide), fun T hT => ?_⟩
        have Tr : T ≠ r := fun e => by rw [e, hz] at hT; cases hT
        have sT : Same H' (upd H' T (.tup [.int (first + (zs.length : Int)), x, .int dep])) := Same.new' hT
        have HT : H T = none := sH.free hT
        refine ⟨r, zs, .ref T, rfl, rfl, sT _ _ hz, Nat.lt_of_lt_of_le (show zs.length < 100001 by omega) (by decide), ?_⟩
        have sH2 : Same H (upd (upd H' T (.tup [.int (first + (zs.length : Int)), x, .int dep])) r (.lst (zs ++ [.ref T]))) := (sH.trans sT).mut hr0
        have hA2 : DqA K (hid r (mix G H (upd (upd H' T (.tup [.int (first + (zs.length : Int)), x, .int dep])) r (.lst (zs ++ [.ref T]))))) (zs ++ [.ref T]) ((acc ++ [(first + acc.length, d, dep)]).map rowD) := by
          rw [List.map_append]
          refine DqA.app (hA.up (upM fun b u hb _ e => by rw [upd_ne hb]; exact sT b u e)) (.cons (.tup (xs := [.int (first + (zs.length : Int)), x, .int dep]) (SqT.of ?_) (.cons ?_ (.cons (hxd.up toM) (.cons (.int dep) .nil)))) .nil)
          · unfold hid
            rw [if_neg Tr]
            exact mix_new HT (by rw [upd_ne Tr]; exact upd_same)
          · rw [zl]
            exact .int _
        have hz2 : upd (upd H' T (.tup [.int (first + (zs.length : Int)), x, .int dep])) r (.lst (zs ++ [.ref T])) r = some (.lst (zs ++ [.ref T])) := upd_same
        have hSm2 : AllSm (acc ++ [(first + acc.length, d, dep)]) := hSm.app (fun r hr => by simp at hr; subst hr; exact smd)
        generalize upd (upd H' T (.tup [.int (first + (zs.length : Int)), x, .int dep])) r (.lst (zs ++ [.ref T])) = H2 at sH2 hA2 hz2 ⊢
        refine ⟨_, rfl, _, rfl, x, d, dep, rfl, hxd.up (sG.trans sH2), smd, fun H3 s3 => ⟨_, rfl, ?_⟩⟩
        have sH3 := sH2.trans s3
        have hz3 := s3 _ _ hz2
        have hA3 := hA2.up (upM (H1 := H2) (H2 := H3) fun b u _ _ e => s3 b u e)
        cases ep : isPart d dep with
        | false =>
          rw [numL_no ep] at hN
          refine iteT ⟨_, rfl, q r _ H3 sH3 hr0 hz3 ?_⟩
          rw [← hN]
          exact hA3.up hid_in
        | true =>
          refine iteF ⟨_, rfl, x, d, G, rfl, sG.trans sH3, hxd, isPart_head ep, fun b ys H4 s4 hb4 hb hys => ?_⟩
          have sH4 := sH3.trans s4
          have hz4 := s4 _ _ hz3
          have hA4 := hA3.up (upM (H1 := H3) (H2 := H4) fun b u _ _ e => s4 b u e)
          have br : b ≠ r := fun e => by rw [e, hz3] at hb4; cases hb4
          have elb := hys.len
          have Rle := numL_gei (g := Gn) (dep := dep) (first := first) (ds := ds.drop (i + 1)) (acc := acc) ep
          rw [hN] at Rle
          generalize hR : numI Gn first (innerW d) (acc ++ [(first + acc.length, d, dep)]) = R at Rle
          refine ⟨b, rfl, ⟨_, SqT.of hb⟩, for_tup (xs := ys)
            (fun j σ H' => ∃ acc2 zs2 o5, σ = [some (.ref a), some (.int first), some (.int dep), some (.ref r), some x, o5] ∧ Same H H' ∧ H' r = some (.lst zs2) ∧ H' b = some (.tup ys) ∧ DqA K (hid r (mix G H H')) zs2 (acc2.map rowD) ∧ AllSm acc2 ∧ acc2 ≠ [] ∧ numI Gn first ((innerW d).drop j) acc2 = R)
            ⟨_, _, _, rfl, sH4, hz4, hb, hA4, hSm2, by simp, hR⟩ (fun j σ H' hj hP => ?_) (fun j y σ H5 hy hP => ?_) (fun σ H' hP => ?_)⟩
          · obtain ⟨_, _, _, _, _, _, hb', _⟩ := hP
            exact SqT.of hb'
          · obtain ⟨acc2, zs2, o5', rfl, sH5, hz5, hb5, hA5, hSm5, hne5, hN5⟩ := hP
            obtain ⟨e, hej, hye⟩ := hys.at hy
            have hje : j < (innerW d).length := (List.getElem?_eq_some_iff.mp hej).1
            have edr2 : (innerW d).drop j = e :: (innerW d).drop (j + 1) := by
              rw [List.drop_eq_getElem_cons hje]
              have := (List.getElem?_eq_some_iff.mp hej).2
              rw [this]
            rw [edr2] at hN5
            obtain ⟨es, rfl, hlt⟩ := part_inner ep e (List.mem_of_getElem? hej)
            have hn : 0 < n := by omega
            have sme := sm_inner smd _ (List.mem_of_getElem? hej)
            have zl2 : zs2.length = acc2.length := by rw [hA5.len, List.length_map]
            have gle := numI_ge1 (g := Gn) (first := first) (.tuple es) ((innerW d).drop (j + 1)) acc2
            rw [hN5] at gle
            have gle2 : acc2.length + (Gn es (first + acc2.length)).length ≤ 100000 := by
              rw [List.length_append] at gle
              exact Nat.le_trans gle (Nat.le_trans Rle finl)
            refine ⟨_, rfl, .inl ⟨rfl, _, SqL.of hz5⟩, _, rfl, _, rfl, _, rfl, _, _, rfl, .inl ⟨_, SqL.of hz5, rfl⟩, _, _, rfl, rfl, _, rfl, _, _, rfl, rfl, y, es, first + (zs2.length : Int), dep + 1, G, rfl, sG.trans sH5, hye, sme, hn, by omega, fun r2 xs2 H6 s6 hn6 h6 hD6 => ?_⟩
            rw [zl2] at hD6
            have r2r : r2 ≠ r := fun e => by rw [e, hz5] at hn6; cases hn6
            have xl : xs2.length = (Gn es (first + acc2.length)).length := by rw [hD6.len, List.length_map]
            refine ⟨r, r2, zs2, xs2, rfl, rfl, s6 _ _ hz5, h6, line_le (by omega), ?_⟩
            have sH7 : Same H (upd H6 r (.lst (zs2 ++ xs2))) := (sH5.trans s6).mut hr0
            have hX : Same (mix G H5 H6) (hid r (mix G H (upd H6 r (.lst (zs2 ++ xs2))))) := fun c u ec => by
              rcases mix_cases ec with ⟨k1, k2⟩ | ⟨k1, k2⟩
              · have cr : c ≠ r := fun e => by rw [e, hz5] at k1; cases k1
                unfold hid
                rw [if_neg cr]
                exact mix_new (sH5.free k1) (by rw [upd_ne cr]; exact k2)
              · exact toM c u k2
            have hA7 : DqA K (hid r (mix G H (upd H6 r (.lst (zs2 ++ xs2))))) (zs2 ++ xs2) ((acc2 ++ Gn es (first + acc2.length)).map rowD) := by
              rw [List.map_append]
              exact DqA.app (hA5.up (upM fun c u hc _ ec => by rw [upd_ne hc]; exact s6 c u ec)) (hD6.up hX)
            have hz7 : upd H6 r (.lst (zs2 ++ xs2)) r = some (.lst (zs2 ++ xs2)) := upd_same
            have hb7 : upd H6 r (.lst (zs2 ++ xs2)) b = some (.tup ys) := by rw [upd_ne br]; exact s6 _ _ hb5
            have hSm7 : AllSm (acc2 ++ Gn es (first + acc2.length)) := hSm5.app (num_sm n es _ _ (sme.elem))
            have hN7 : numI Gn first (.tuple es :: (innerW d).drop (j + 1)) acc2 = (if badLast (acc2 ++ Gn es (first + acc2.length)) then (acc2 ++ Gn es (first + acc2.length), true) else numI Gn first ((innerW d).drop (j + 1)) (acc2 ++ Gn es (first + acc2.length))) := by rw [numI]; rfl
            rw [hN5] at hN7
            have hne7 : acc2 ++ Gn es (first + acc2.length) ≠ [] := fun e => hne5 (List.append_eq_nil_iff.mp e).1
            generalize upd H6 r (.lst (zs2 ++ xs2)) = H7 at sH7 hA7 hz7 hb7 ⊢
            generalize acc2 ++ Gn es (first + acc2.length) = acc3 at hA7 hSm7 hN7 hne7
            obtain ⟨ff, row, rfl⟩ := ex_last hne7
            rw [List.map_append] at hA7
            obtain ⟨zf, vl, ez, hvl⟩ := dqA_last hA7
            rw [badLast_app] at hN7
            have hA7' : DqA K (hid r (mix G H H7)) (zs2 ++ xs2) ((ff ++ [row]).map rowD) := by rw [List.map_append]; exact hA7
            rw [ez] at hz7 hA7'
            obtain ⟨ri, rd, rp⟩ := row
            have smr : Sm rd := hSm7 (ri, rd, rp) (by simp)
            have hid7 : Same (hid r (mix G H H7)) H7 := fun c u ec => by
              rcases mix_cases (hid_in c u ec) with ⟨k1, k2⟩ | ⟨k1, k2⟩
              · exact k2
              · exact sH7 c u (sG c u k2)
            have hvl7 := hvl.up hid7
            cases hvl7 with
            | @tup Tl tl _ hTl hTa =>
              obtain ⟨wv, rfl, hw⟩ := dqA_row hTa
              · skip
                refine ⟨_, rfl, 1, rfl, r, _, -1, .ref Tl, rfl, rfl, SqL.of hz7, atI_last _ _, Tl, _, 1, wv, rfl, rfl, hTl, rfl, _, rfl, 1, rfl, r, _, -1, .ref Tl, rfl, rfl, SqL.of hz7, atI_last _ _, Tl, _, 2, _, rfl, rfl, hTl, rfl, wv, rd, rp, rfl, hw, smr, fun H8 s8 => ⟨_, rfl, ?_⟩⟩
                have sH8 := sH7.trans s8
                have hA8 := hA7'.up (upM (H1 := H7) (H2 := H8) fun b u _ _ e => s8 b u e)
                cases er : isPart rd rp with
                | false =>
                  refine iteT ⟨_, rfl, q r _ H8 sH8 hr0 (s8 _ _ hz7) ?_⟩
                  have eb : badRow (ri, rd, rp) = true := by show (!isPart rd rp) = true; rw [er]; rfl
                  rw [eb, if_pos rfl] at hN7
                  rw [← hN, numL_stop (R := ff ++ [(ri, rd, rp)]) ep (hR.trans hN7)]
                  exact hA8.up hid_in
                | true =>
                  have eb : badRow (ri, rd, rp) = false := by show (!isPart rd rp) = false; rw [er]; rfl
                  rw [eb, if_neg Bool.false_ne_true] at hN7
                  exact iteF ⟨_, _, _, rfl, sH8, s8 _ _ hz7, s8 _ _ hb7, hA8, hSm7, hne7, hN7.symm⟩
          · obtain ⟨acc2, zs2, o5', rfl, sH5, hz5, hb5, hA5, hSm5, hne5, hN5⟩ := hP
            have e : (innerW d).drop ys.length = [] := by rw [elb]; exact List.drop_length
            rw [e] at hN5
            refine ⟨acc2, zs2, _, _, rfl, sH5, hz5, hA5, hSm5, ?_⟩
            rw [← numL_go (g := Gn) (dep := dep) (first := first) (ds := ds.drop (i + 1)) (acc := acc) (R := acc2) ep (hR.trans hN5.symm)]
            exact hN
      · obtain ⟨acc, zs, o4, o5, rfl, sH, hz, hA, hSm, hN⟩ := hP
        have e : ds.drop xs.length = [] := by rw [el]; exact List.drop_length
        rw [e] at hN
        refine ⟨_, rfl, q r zs H' sH hr0 hz ?_⟩
        rw [← hN]
        exact hA.up hid_in
end
end K07
namespace K07
open PySem PySem.Spec PyProof.Rows L2
abbrev s_Policy_longest : Stmt := inClass (top 39) 10
/-! ### how long a policy's call can take -/
def longD (row : List PyData) : Int := match row with
  | [_, .int l, .int t, .tuple ps, .none, _, _] => t * l + (ps.map intOf).sum
  | [_, .int l, .int t, _, .int e, _, _] => (t - 1) * e + l
  | _ => 0
def LongOk (row : List PyData) : Prop := ∃ (dn : PyData) (l t : Int) (ps : List Int) (e y g : PyData), row = [dn, .int l, .int t, .tuple (ps.map .int), e, y, g] ∧ 0 ≤ l ∧ l ≤ 20 ∧ 0 ≤ t ∧ t ≤ 3 ∧ (e = .none ∨ ∃ i : Int, e = .int i ∧ 0 ≤ i ∧ i ≤ 20)
def spLong (K : PySem.W.Frag) (C : Addr) : Sp := fun vs H Q _ => ∃ (v : V) (row : List PyData), vs = [v] ∧ IsPol K C H v row ∧ LongOk row ∧ Q (.int (longD row)) H
theorem ints_of {K : PySem.W.Frag} {H : Hp} : ∀ {xs : List V} {ps : List Int}, DqA K H xs (ps.map .int) → xs = ps.map V.int
  | _, [], h => by
    cases h
    rfl
  | _, p :: ps, h => by
    cases h with
    | cons h t =>
      cases h
      rw [ints_of t]
      rfl
theorem boot_sum' : bootBuiltins "sum" = some (.builtin "sum") := by decide +kernel
section
variable {P : Program} {w : World} {K : PySem.W.Frag} {mg : Str → Option Value} {base : Heap} {f g : Addr} {fd gd : FuncData} {CX : CXT}
theorem sc_longest : FnScope ["self"] ["self"] (defScope s_Policy_longest) := ⟨rfl, rfl, rfl, by decide +kernel, rfl, by decide +kernel, by decide +kernel⟩
theorem ok_longest {C : Addr} (F : FnM K "longest" "Policy.longest" s_Policy_longest f fd) (TC : PolC K C) (msum : mg "sum" = none) : FnOk P w K mg base CX0 1 f fd ["self"] (spLong K C) := by
  refine F.ok sc_longest (fun vs H Q E h => ?_) (fun cdv A outer s H vs Q E hr h => ?_)
  · obtain ⟨_, _, rfl, _⟩ := h
    rfl
  · obtain ⟨v, row, rfl, hp, ⟨dn, l, t, ps, e, y, g, rfl, l0, l1, t0, t1, he⟩, q⟩ := h
    refine ⟨_, (pss_cons (ps_if (pt_cmp (pc_isN (pe_fld (pv 0) rfl))) (pss_one (ps_ret (pe_op op_add (pe_op op_mul (pe_fld (pv 0) rfl) (pe_fld (pv 0) rfl)) (pe_callB (cr_sumT rfl) rfl msum boot_sum' (pa_cons (pe_fld (pv 0) rfl) pa_nil))))) pss_nil)
      (pss_one (ps_ret (pe_op op_add (pe_op op_mul (pe_op op_sub (pe_fld (pv 0) rfl) pe_int) (pe_fld (pv 0) rfl)) (pe_fld (pv 0) rfl))))), ?_⟩
    obtain ⟨a, dx, vn, v0, v1, v2, v3, v4, v5, rfl, ha, hd⟩ := hp
    obtain ⟨_, _, _, _, _, _, _, ee, hn, h0, h1, h2, h3, h4, h5⟩ := dqA7 hd
    cases ee
    cases h0
    cases h1
    refine ⟨_, rfl, a, C, dx, _, v3, rfl, ha, TC.cl, TC.n_early, rfl, ?_⟩
    rcases he with rfl | ⟨i, rfl, i0, i1⟩
    · cases h3
      cases h2 with
      | @tup b xs _ hs hx =>
        have ex := ints_of hx
        subst ex
        refine ⟨_, rfl, iteY (rfl : V.non = V.non) ?_⟩
        refine ⟨_, rfl, a, C, dx, _, _, rfl, ha, TC.cl, TC.n_tries, rfl, _, rfl, a, C, dx, _, _, rfl, ha, TC.cl, TC.n_limit, rfl, _, _, rfl, rfl, .inl ⟨by omega, by omega⟩, _, rfl, a, C, dx, _, _, rfl, ha, TC.cl, TC.n_pauses, rfl, b, ps, rfl, hs, _, _, rfl, rfl, ?_⟩
        have z : (((ps.map PyData.int).map intOf).sum : Int) = ps.sum := by
          rw [List.map_map]
          congr 1
          exact List.map_id' ps
        have w := q
        unfold longD at w
        dsimp only at w
        rw [z] at w
        exact w
    · cases h3
      refine ⟨_, rfl, iteN (fun z : V.int i = V.non => nomatch z) ?_⟩
      refine ⟨_, rfl, a, C, dx, _, _, rfl, ha, TC.cl, TC.n_tries, rfl, _, _, rfl, rfl, _, rfl, a, C, dx, _, _, rfl, ha, TC.cl, TC.n_early, rfl, _, _, rfl, rfl, .inl ⟨by omega, by omega⟩, _, rfl, a, C, dx, _, _, rfl, ha, TC.cl, TC.n_limit, rfl, _, _, rfl, rfl, ?_⟩
      exact q
end
/-! ### the parts alone -/
def partsW (ds : List PyData) : List PyData := (num 3 ds 0 0).map fun r => r.2.1
def spParts (K : PySem.W.Frag) : Sp := fun vs H Q _ => ∃ (v : V) (ds : List PyData) (G : Hp), vs = [v] ∧ Same G H ∧ Dq K G v (.tuple ds) ∧ Sm (.tuple ds) ∧
  ∀ r xs H', Same H H' → H r = none → H' r = some (.lst xs) → DqA K (mix G H H') xs (partsW ds) → Q (.ref r) H'
theorem dqA_rows {K : PySem.W.Frag} {H : Hp} : ∀ {xs : List V} {rs : List Row}, DqA K H xs (rs.map rowD) → ∃ ws : List V, DqA K H ws (rs.map fun r => r.2.1) ∧ ∀ (i : Nat) (x : V), xs[i]? = some x → ∃ T r wv, rs[i]? = some r ∧ x = .ref T ∧ SqT K H T [.int r.1, wv, .int r.2.2] ∧ ws[i]? = some wv
  | _, [], h => by
    cases h
    exact ⟨[], .nil, fun i x e => by simp at e⟩
  | _, r :: rs, h => by
    cases h with
    | cons h t =>
      obtain ⟨ws, h1, h2⟩ := dqA_rows t
      obtain ⟨ri, rd, rp⟩ := r
      cases h with
      | @tup T tl _ hT hTa =>
        obtain ⟨wv, rfl, hw⟩ := dqA_row hTa
        refine ⟨wv :: ws, .cons hw h1, fun i x e => ?_⟩
        cases i with
        | zero =>
          simp at e
          subst e
          exact ⟨T, _, wv, rfl, rfl, hT, rfl⟩
        | succ i =>
          obtain ⟨T', r', wv', k1, k2, k3, k4⟩ := h2 i x (by simpa using e)
          exact ⟨T', r', wv', by simpa using k1, k2, k3, by simpa using k4⟩
section
variable {P : Program} {w : World} {K : PySem.W.Frag} {mg : Str → Option Value} {base : Heap} {f g : Addr} {fd gd : FuncData} {CX : CXT}
theorem sc_parts_of : FnScope ["block", "place", "part", "depth"] ["block"] (defScope s_parts_of) := ⟨rfl, rfl, rfl, by decide +kernel, rfl, by decide +kernel, by decide +kernel⟩
theorem ok_parts_of {gN : Addr} {eN : FuncData} (F : FnP K "parts_of" s_parts_of f fd) (GN : FnP K "numbered" s_numbered gN eN) (mN : mg "numbered" = some (.ref gN)) (FN : FnOk P w K mg base CX0 6 gN eN ["block", "first", "depth"] (spNum K 3)) : FnOk P w K mg base CX0 7 f fd ["block"] (spParts K) := by
  have bN : Binds K eN ["block", "first", "depth"] [] := GN.bindsN fun _ _ _ _ _ _ us hl => match us, hl with | [_, _, _], _ => rfl
  refine F.ok sc_parts_of (fun vs H Q E h => ?_) (fun cdv A outer s H vs Q E hr h => ?_)
  · obtain ⟨_, _, _, rfl, _⟩ := h
    rfl
  · obtain ⟨v, ds, G, rfl, sG, hd, hs, q⟩ := h
    refine ⟨_, pss_one (ps_ret (pe_lc (own := [("place", 1), ("part", 2), ("depth", 3)]) (g := gTup K 3 (gCons (gName 1) (gCons (gName 2) (gCons (gName 3) gNil)))) (tt := tYes) rfl sc_parts_of.nd (pi_list (pe_call FN hr rfl mN GN.kp bN .nil pass0 (pa_cons (pv 0) (pa_cons pe_int (pa_cons pe_int pa_nil)))))
      (blkOk_by (N := ["block", "place", "part", "depth"]) (sc := defScope s_parts_of) (by decide +kernel))
      (fun _ _ _ _ _ => by exact pg_tup rfl (pgs_cons (pg_name (i := 1) sc_parts_of.nd rfl (Or.inl rfl)) (pgs_cons (pg_name (i := 2) sc_parts_of.nd rfl (Or.inl rfl)) (pgs_cons (pg_name (i := 3) sc_parts_of.nd rfl (Or.inl rfl)) pgs_nil)))) (fun _ _ _ _ _ => pts_nil) (fun _ _ _ _ _ => pv 2))), ?_⟩
    refine ⟨_, rfl, v, ds, 0, 0, G, rfl, sG, hd, hs, by decide, by decide, fun r xs H1 s1 hr0 hr1 hA => ⟨r, rfl, ⟨_, SqL.of hr1⟩, fun D hD => ?_⟩⟩
    obtain ⟨ws, hws, hat⟩ := dqA_rows hA
    have el : ws.length = xs.length := by rw [hws.len, hA.len, List.length_map, List.length_map]
    have hl : xs.length ≤ 100000 := by
      rw [hA.len, List.length_map]
      have w1 := num_len 3 ds 0 0
      have w2 := hs.wt
      simp only [PyData.weight] at w2
      omega
    have mx : Same (mix G H H1) H1 := fun b u e => by
      rcases mix_cases e with ⟨k1, k2⟩ | ⟨k1, k2⟩
      · exact k2
      · exact s1 b u (sG b u k2)
    refine lc_it walk_list (fun i H' => H' = upd H1 D (.lst (ws.take i))) rfl (fun i H' _ e => by rw [e]; exact SqL.of ((Same.new' hD) _ _ hr1)) ?_ (fun H' e => ?_)
    · rintro i x H' H'' hi rfl ⟨rfl, hx⟩
      obtain ⟨T, rw_, wv, k1, rfl, k3, k4⟩ := hat i x hx
      refine ⟨T, _, rfl, SqT.upT (mx.trans (Same.new' hD)) k3, rfl, _, _, rfl, _, _, rfl, _, _, rfl, rfl, rfl, ?_⟩
      refine ⟨_, rfl, ws.take i, upd_same, ?_, ?_⟩
      · rw [List.length_take]
        exact Nat.lt_of_le_of_lt (Nat.min_le_right _ _) (Nat.lt_of_le_of_lt (show ws.length ≤ 100000 by rw [el]; exact hl) (by decide))
      · rw [upd_upd, take_snoc k4]
    · subst e
      rw [← el, List.take_length]
      refine q D ws _ (s1.trans (Same.new' hD)) (s1.free hD) upd_same (hws.up fun b u e => ?_)
      rcases mix_cases e with ⟨k1, k2⟩ | ⟨k1, k2⟩
      · exact mix_new k1 ((Same.new' hD) b u k2)
      · exact mix_old sG b u k2
end
end K07
namespace K07
open PySem PySem.Spec PyProof.Rows L2
abbrev s_block_span : Stmt := top 25
abbrev s_part_span : Stmt := top 26
/-! ### spans -/
def strOf : PyData → Str | .str z => z | _ => ""
def maxL : List Int → Int | [] => 0 | x :: xs => xs.foldl max x
theorem foldl_max (xs : List Int) : ∀ x : Int, x ≤ xs.foldl max x ∧ (∀ y ∈ xs, y ≤ xs.foldl max x) ∧ (xs.foldl max x = x ∨ xs.foldl max x ∈ xs) := by
  induction xs with
  | nil => intro x; exact ⟨Int.le_refl _, (fun y hy => by cases hy), Or.inl rfl⟩
  | cons a xs ih =>
    intro x
    obtain ⟨h1, h2, h3⟩ := ih (max x a)
    rw [List.foldl_cons]
    refine ⟨by omega, fun y hy => ?_, ?_⟩
    · rcases List.mem_cons.mp hy with rfl | hy
      · omega
      · exact h2 y hy
    · rcases h3 with h3 | h3
      · by_cases hx : a ≤ x
        · exact .inl (by omega)
        · exact .inr (by rw [h3, show max x a = a by omega]; exact List.mem_cons_self)
      · exact .inr (List.mem_cons_of_mem _ h3)
theorem maxL_eq {ns : List Int} {m : Int} (h : m ∈ ns) (k : ∀ y ∈ ns, y ≤ m) : m = maxL ns := by
  cases ns with
  | nil => cases h
  | cons x xs =>
    obtain ⟨h1, h2, h3⟩ := foldl_max xs x
    show m = xs.foldl max x
    have a : m ≤ xs.foldl max x := by
      rcases List.mem_cons.mp h with rfl | h
      · exact h1
      · exact h2 _ h
    have b : xs.foldl max x ≤ m := by
      rcases h3 with h3 | h3
      · rw [h3]; exact k _ List.mem_cons_self
      · exact k _ (List.mem_cons_of_mem _ h3)
    omega
def polName (d : PyData) : Str := match d with
  | .tuple [_, _, .str p] => p
  | _ => ""
def spanP (L : Str → Int) : Nat → PyData → Int
  | n, .tuple (.str z :: ds) => if z = "run" then intOf (ds.getD 1 .none) else if z = "call" ∨ z = "want" then L (polName (.tuple (.str z :: ds)))
      else if z = "maybe" ∨ z = "both" then (match n with
        | 0 => 0
        | n + 1 => maxL (ds.map fun b => ((elems b).map (spanP L n)).sum)) else 0
  | _, _ => 0
def VP (PS : Str → Prop) : Nat → PyData → Prop
  | 0, d => isPart d 2 = true ∧ (callW d = true → PS (polName d))
  | n + 1, d => isPart d (2 - (n + 1 : Nat)) = true ∧ (callW d = true → PS (polName d)) ∧ ∀ b ∈ innerW d, ∀ e ∈ elems b, VP PS n e
theorem VP.part {PS : Str → Prop} : ∀ {n : Nat} {d : PyData}, VP PS n d → isPart d (2 - (n : Int)) = true
  | 0, _, h => h.1
  | _ + 1, _, h => h.1
theorem VP.pol {PS : Str → Prop} : ∀ {n : Nat} {d : PyData}, VP PS n d → callW d = true → PS (polName d)
  | 0, _, h => h.2
  | _ + 1, _, h => h.2.1
def PolD (K : PySem.W.Frag) (C : Addr) (H : Hp) (dp : Addr) (PS : Str → Prop) (L : Str → Int) : Prop := ∃ kvs, H dp = some (.dK kvs) ∧ ∀ p, PS p → ∃ w row, valV kvs (Sum.inr p) = some w ∧ IsPol K C H w row ∧ LongOk row ∧ longD row = L p
theorem PolD.up {K : PySem.W.Frag} {C : Addr} {H H' : Hp} {dp : Addr} {PS : Str → Prop} {L : Str → Int} (s : Same H H') (h : PolD K C H dp PS L) : PolD K C H' dp PS L := by
  obtain ⟨kvs, h1, h2⟩ := h
  refine ⟨kvs, s _ _ h1, fun p hp => ?_⟩
  obtain ⟨w, row, a, b, c, d⟩ := h2 p hp
  exact ⟨w, row, a, b.up s, c, d⟩
def spPS (K : PySem.W.Frag) (C : Addr) (PS : Str → Prop) (L : Str → Int) (n : Nat) : Sp := fun vs H Q _ => ∃ (v : V) (d : PyData) (dp : Addr), vs = [v, .ref dp] ∧ Dq K H v d ∧ Sm d ∧ VP PS n d ∧ PolD K C H dp PS L ∧ ∀ H', Same H H' → Q (.int (spanP L n d)) H'
def spBS (K : PySem.W.Frag) (C : Addr) (PS : Str → Prop) (L : Str → Int) : Nat → Sp
  | 0 => fun _ _ _ _ => False
  | n + 1 => fun vs H Q _ => ∃ (v : V) (ds : List PyData) (dp : Addr), vs = [v, .ref dp] ∧ Dq K H v (.tuple ds) ∧ Sm (.tuple ds) ∧ (∀ e ∈ ds, VP PS n e) ∧ PolD K C H dp PS L ∧ ∀ H', Same H H' → Q (.int (ds.map (spanP L n)).sum) H'
theorem boot_max' : bootBuiltins "max" = some (.builtin "max") := by decide +kernel
theorem part_len {z : Str} {ds : List PyData} {dep : Int} (h : isPart (.tuple (.str z :: ds)) dep = true) : (sizes z).getD 0 = (ds.length : Int) + 1 ∧ partOf z ds dep = true := by
  rw [isPart_str, Bool.and_eq_true, decide_eq_true_eq] at h
  exact h
section
variable {P : Program} {w : World} {K : PySem.W.Frag} {mg : Str → Option Value} {base : Heap} {f g : Addr} {fd gd : FuncData} {CX : CXT} {C : Addr} {PS : Str → Prop} {L : Str → Int}
theorem sc_part_span : FnScope ["part", "policies", "block"] ["part", "policies"] (defScope s_part_span) := ⟨rfl, rfl, rfl, by decide +kernel, rfl, by decide +kernel, by decide +kernel⟩
theorem ok_part_span {n : Nat} {gB gL pL : Addr} {eB eL : FuncData} (F : FnP K "part_span" s_part_span f fd) (GB : FnP K "block_span" s_block_span gB eB) (mB : mg "block_span" = some (.ref gB)) (FB : FnOk P w K mg base CX0 (2 * n + 3) gB eB ["block", "policies"] (spBS K C PS L n))
    (TC : PolC K C) (PL : PropOf K C "longest" pL gL) (GL : FnM K "longest" "Policy.longest" s_Policy_longest gL eL) (FL : FnOk P w K mg base CX0 1 gL eL ["self"] (spLong K C)) (mmax : mg "max" = none) : FnOk P w K mg base CX0 (2 * n + 4) f fd ["part", "policies"] (spPS K C PS L n) := by
  have bB : Binds K eB ["block", "policies"] [] := GB.bindsN fun _ _ _ _ _ _ us hl => match us, hl with | [_, _], _ => rfl
  have bL : Binds K eL ["self"] [] := GL.bindsN fun _ _ _ _ _ _ us hl => match us, hl with | [_], _ => rfl
  refine F.ok sc_part_span (fun vs H Q E h => ?_) (fun cdv A outer s H vs Q E hr h => ?_)
  · obtain ⟨_, _, _, rfl, _⟩ := h
    rfl
  · obtain ⟨v, d, dp, rfl, hd, hs, hv, hp, q⟩ := h
    have hu := hu_of hr
    have hr2 := hr.mono (by omega : 2 ≤ 2 * n + 3)
    refine ⟨_, pss_one (ps_match (pe_ix ix_tup (pv 0) pe_int (fun _ _ => rfl))
        (pm_str1 (pss_one (ps_ret (pe_ix ix_tup (pv 0) pe_int (fun _ _ => rfl))))
        (pm_str2 (pss_one (ps_ret (pe_prop (pe_dget hu (pv 1) (pe_ix ix_tup (pv 0) pe_int (fun _ _ => rfl)) (fun _ _ => rfl)) TC.cl PL FL hr2 bL .nil pass0 rfl)))
        (pm_str2 (pss_one (ps_ret (pe_callB (cr_max rfl) rfl mmax boot_max' (pa_cons (pe_lc (own := [("block", 2)]) (g := gName 2) (tt := tYes) rfl sc_part_span.nd (pi_tup (pe_slice sl_tup (pv 0) (po_some pe_int) po_none)) (blkOk_by (N := ["part", "policies", "block"]) (sc := defScope s_part_span) (by decide +kernel))
            (fun _ _ _ _ _ => pg_name (i := 2) sc_part_span.nd rfl (Or.inl rfl)) (fun _ _ _ _ _ => pts_nil) (fun _ _ _ _ _ => pe_call FB hr rfl mB GB.kp bB .nil pass0 (pa_cons (pv 2) (pa_cons (pv 1) pa_nil)))) pa_nil))))
        (pm_any (pss_one (ps_ret pe_int))))))), ?_⟩
    cases hd with
    | @tup a xs ds hsq ha =>
      have hpt := hv.part
      obtain ⟨z, ds, ee⟩ := isPart_head hpt
      cases ee
      obtain ⟨hlen, hpo⟩ := part_len hpt
      cases ha with
      | @cons x0 xs _ _ h0 hr0 =>
        cases h0
        have el := hr0.len
        refine ⟨_, rfl, a, _, 0, _, rfl, rfl, hsq, at0, z, rfl, fun m => ?_, fun n1 => ⟨z, rfl, fun m => ?_, fun n2 => ⟨z, rfl, fun m => ?_, fun n3 => ?_⟩⟩⟩
        · obtain rfl : z = "run" := by simpa using m
          have hl2 : ds.length = 2 := by
            have e : (sizes "run").getD 0 = (3 : Int) := by decide +kernel
            rw [e] at hlen
            omega
          obtain ⟨x1, x2, d1, d2, rfl, rfl, h1, h2⟩ := dqA2 hr0 hl2
          rw [part_run, Bool.and_eq_true] at hpo
          obtain ⟨i, e2, _, _⟩ := isBetw_int hpo.2
          have e2' : d2 = .int i := e2
          subst e2'
          cases h2
          refine ⟨_, rfl, a, _, 2, _, rfl, rfl, hsq, rfl, ?_⟩
          have w := q H (Same.refl H)
          rw [show spanP L n (.tuple [.str "run", d1, .int i]) = i from by unfold spanP; rw [if_pos rfl]; rfl] at w
          exact w
        · have hzz : z = "call" ∨ z = "want" := by simpa using m
          have hl2 : ds.length = 2 := by
            have e : (sizes z).getD 0 = (3 : Int) := by rcases hzz with rfl | rfl <;> decide +kernel
            rw [e] at hlen
            omega
          obtain ⟨x1, x2, d1, d2, rfl, rfl, h1, h2⟩ := dqA2 hr0 hl2
          rw [part_call hzz, Bool.and_eq_true] at hpo
          have n2' : isName d2 = true := hpo.2
          cases h2 with
          | str p hp2 =>
            have ps : PS p := hv.pol (by show decide _ = true; exact decide_eq_true hzz)
            obtain ⟨kvs, hk, hall⟩ := hp
            obtain ⟨wv, row, k1, k2, k3, k4⟩ := hall p ps
            refine ⟨_, rfl, _, rfl, a, _, 2, _, rfl, rfl, hsq, rfl, dp, wv, rfl, by rw [← k1]; exact DGet.k (k := Sum.inr p) hk, ?_⟩
            obtain ⟨pa, pdx, vn, v0, v1, v2, v3, v4, v5, rfl, hpa, hpd⟩ := id k2
            refine ⟨pa, pdx, _, rfl, hpa, _, row, rfl, k2, k3, ?_⟩
            rw [k4]
            have e : spanP L n (.tuple [.str z, d1, .str p]) = L p := by
              unfold spanP
              rw [if_neg (by rcases hzz with rfl | rfl <;> decide), if_pos hzz]
              rfl
            have w := q H (Same.refl H)
            rw [e] at w
            exact w
          | _ => exact nomatch (show false = true from n2')
        · have hzz : z = "maybe" ∨ z = "both" := by simpa using m
          rw [part_blocks hzz] at hpo
          have hin := part_inner hpt
          rw [inner_yes hzz] at hin
          have hlp : 1 ≤ ds.length := by
            have e : (2 : Int) ≤ (sizes z).getD 0 := by rcases hzz with rfl | rfl <;> decide +kernel
            rw [hlen] at e
            omega
          cases n with
          | zero =>
            match ds, hlp, hin with
            | d1 :: _, _, hin =>
              obtain ⟨_, _, hlt⟩ := hin d1 List.mem_cons_self
              exact absurd hlt (by decide)
          | succ n =>
            have hvv : ∀ b ∈ ds, ∀ e ∈ elems b, VP PS n e := by
              have z3 := hv.2.2
              rw [inner_yes hzz] at z3
              exact z3
            refine ⟨_, rfl, 1, rfl, a, _, rfl, hsq, sIx_one (by show 1 ≤ (V.str z :: xs).length; simp), fun p2 hp2 => ?_⟩
            rw [cut_one]
            have s2 : Same H (upd H p2 (.tup xs)) := Same.new' hp2
            have hp3 : upd H p2 (.tup xs) p2 = some (.tup xs) := upd_same
            have ha2 := hr0.up s2
            have hp2' := hp.up s2
            generalize upd H p2 (.tup xs) = H2 at s2 hp3 ha2 hp2' ⊢
            have hlen5 : xs.length ≤ sizeLine := by
              have := hs.len
              rw [List.length_cons] at this
              exact line_le (by omega)
            refine ⟨p2, rfl, ⟨_, SqT.of hp3⟩, fun D hD => ?_⟩
            refine lc_same walk_tup (ds.map fun b => V.int ((elems b).map (spanP L n)).sum) (by rw [List.length_map, el]) hlen5 hD (fun H' s' => SqT.upT s' (SqT.of hp3)) (fun _ => rfl) (fun i y H' Q' hi hy s' k => ?_) (fun H' s' hD' => ?_)
            · obtain ⟨e, he, hye⟩ := ha2.at hy
              obtain ⟨es, rfl, _⟩ := hin e (List.mem_of_getElem? he)
              refine ⟨_, rfl, _, rfl, y, es, dp, rfl, hye.up s', hs.elem _ (List.mem_cons_of_mem _ (List.mem_of_getElem? he)), hvv _ (List.mem_of_getElem? he), hp2'.up s', fun H'' s'' => k _ _ ?_ s''⟩
              rw [List.getElem?_map, he]
              rfl
            · refine ⟨D, ds.map fun b => ((elems b).map (spanP L n)).sum, rfl, SqL.of (by rw [hD', List.map_map]; rfl), by rw [List.length_map]; exact hlp, fun m hm hle => ?_⟩
              rw [maxL_eq hm hle]
              have w := q _ (s2.trans s')
              rw [show spanP L (n + 1) (.tuple (.str z :: ds)) = maxL (ds.map fun b => ((elems b).map (spanP L n)).sum) from by
                rw [spanP, if_neg (by rcases hzz with rfl | rfl <;> decide), if_neg (by rcases hzz with rfl | rfl <;> decide), if_pos hzz]] at w
              exact w
        · have w := q H (Same.refl H)
          have e : spanP L n (.tuple (.str z :: ds)) = 0 := by
            unfold spanP
            rw [if_neg (by simpa using n1), if_neg (by simpa using n2), if_neg (by simpa using n3)]
          rw [e] at w
          exact w
    | _ => exact absurd hv.part (by intro z; cases z)
theorem sc_block_span : FnScope ["block", "policies", "part"] ["block", "policies"] (defScope s_block_span) := ⟨rfl, rfl, rfl, by decide +kernel, rfl, by decide +kernel, by decide +kernel⟩
theorem ok_block_span {n : Nat} {gP : Addr} {eP : FuncData} (F : FnP K "block_span" s_block_span f fd) (GP : FnP K "part_span" s_part_span gP eP) (mP : mg "part_span" = some (.ref gP)) (FP : FnOk P w K mg base CX0 (2 * n + 4) gP eP ["part", "policies"] (spPS K C PS L n)) (msum : mg "sum" = none) :
    FnOk P w K mg base CX0 (2 * n + 5) f fd ["block", "policies"] (spBS K C PS L (n + 1)) := by
  have bP : Binds K eP ["part", "policies"] [] := GP.bindsN fun _ _ _ _ _ _ us hl => match us, hl with | [_, _], _ => rfl
  refine F.ok sc_block_span (fun vs H Q E h => ?_) (fun cdv A outer s H vs Q E hr h => ?_)
  · obtain ⟨_, _, _, rfl, _⟩ := h
    rfl
  · obtain ⟨v, ds, dp, rfl, hd, hs, hv, hp, q⟩ := h
    refine ⟨_, pss_one (ps_ret (pe_callB (cr_sum rfl) rfl msum boot_sum' (pa_cons (pe_lc (own := [("part", 2)]) (g := gName 2) (tt := tYes) rfl sc_block_span.nd (pi_tup (pv 0)) (blkOk_by (N := ["block", "policies", "part"]) (sc := defScope s_block_span) (by decide +kernel))
            (fun _ _ _ _ _ => pg_name (i := 2) sc_block_span.nd rfl (Or.inl rfl)) (fun _ _ _ _ _ => pts_nil) (fun _ _ _ _ _ => pe_call FP hr rfl mP GP.kp bP .nil pass0 (pa_cons (pv 2) (pa_cons (pv 1) pa_nil)))) pa_nil))), ?_⟩
    cases hd with
    | @tup a xs _ hsq ha =>
      have el := ha.len
      refine ⟨_, rfl, a, rfl, ⟨_, hsq⟩, fun D hD => ?_⟩
      refine lc_same walk_tup (ds.map fun e => V.int (spanP L n e)) (by rw [List.length_map, el]) (by rw [el]; exact line_le hs.len) hD (fun H' s' => SqT.upT s' hsq) (fun _ => rfl) (fun i y H' Q' hi hy s' k => ?_) (fun H' s' hD' => ?_)
      · obtain ⟨e, he, hye⟩ := ha.at hy
        refine ⟨_, rfl, _, rfl, y, e, dp, rfl, hye.up s', hs.elem e (List.mem_of_getElem? he), hv e (List.mem_of_getElem? he), hp.up s', fun H'' s'' => k _ _ ?_ s''⟩
        rw [List.getElem?_map, he]
        rfl
      · refine ⟨D, ds.map (spanP L n), rfl, SqL.of (by rw [hD', List.map_map]; rfl), ?_⟩
        exact q _ s'
end
end K07
namespace K07
open PySem PySem.Spec PyProof.Rows L2
abbrev s_check_policies : Stmt := top 45
abbrev s_check_services : Stmt := top 46
abbrev s_check_block : Stmt := top 47
/-! ### what a system is made of: right lists -/
inductive PolsL (K : PySem.W.Frag) (C : Addr) (H : Hp) : List V → List (Str × List PyData) → Prop
  | nil : PolsL K C H [] []
  | cons {x : V} {xs : List V} {nm : Str} {row : List PyData} {rs : List (Str × List PyData)} : IsPol K C H x (.str nm :: row) → PolsL K C H xs rs → PolsL K C H (x :: xs) ((nm, .str nm :: row) :: rs)
theorem PolsL.up {K : PySem.W.Frag} {C : Addr} {H H' : Hp} (s : Same H H') : ∀ {xs : List V} {rs : List (Str × List PyData)}, PolsL K C H xs rs → PolsL K C H' xs rs
  | _, _, .nil => .nil
  | _, _, .cons h t => .cons (h.up s) (PolsL.up s t)
theorem PolsL.len {K : PySem.W.Frag} {C : Addr} {H : Hp} : ∀ {xs : List V} {rs : List (Str × List PyData)}, PolsL K C H xs rs → xs.length = rs.length
  | _, _, .nil => rfl
  | _, _, .cons h t => by simp [PolsL.len t]
theorem PolsL.at {K : PySem.W.Frag} {C : Addr} {H : Hp} : ∀ {xs : List V} {rs : List (Str × List PyData)} {i : Nat} {x : V}, PolsL K C H xs rs → xs[i]? = some x → ∃ nm row, rs[i]? = some (nm, .str nm :: row) ∧ IsPol K C H x (.str nm :: row)
  | _, _, _, _, .nil, e => by simp at e
  | _, _, 0, _, .cons h _, e => by simp at e; subst e; exact ⟨_, _, rfl, h⟩
  | _, _, i + 1, x, .cons _ t, e => by
    obtain ⟨nm, row, h1, h2⟩ := PolsL.at (i := i) (x := x) t (by simpa using e)
    exact ⟨nm, row, by simpa using h1, h2⟩
def srvD (srv : List (Str × List PyData)) : List PyData := srv.map fun s => .tuple [.str s.1, .tuple s.2]
def spCP (K : PySem.W.Frag) (C : Addr) : Sp := fun vs H Q _ => ∃ (a : Addr) (xs : List V) (rs : List (Str × List PyData)), vs = [.ref a] ∧ SqL K H a xs ∧ PolsL K C H xs rs ∧ rs.length ≤ 8 ∧ (rs.map Prod.fst).Nodup ∧ ∀ H', Same H H' → Q .non H'
def spCS (K : PySem.W.Frag) : Sp := fun vs H Q _ => ∃ (v : V) (srv : List (Str × List PyData)), vs = [v] ∧ Dq K H v (.list (srvD srv)) ∧ 1 ≤ srv.length ∧ srv.length ≤ 6 ∧ (srv.map Prod.fst).Nodup ∧ (∀ s ∈ srv, isName (.str s.1) = true) ∧ ∀ H', Same H H' → Q .non H'
theorem in_strs (z : Str) (ns : List Str) : inV (.str z) (ns.map V.str) = decide (z ∈ ns) := by
  rw [Bool.eq_iff_iff, decide_eq_true_eq]
  unfold inV
  rw [List.any_map, List.any_eq_true]
  constructor
  · rintro ⟨y, h1, h2⟩
    have e : y = z := by simpa [eqV] using h2
    exact e ▸ h1
  · intro h
    exact ⟨z, h, by simp [eqV]⟩
theorem flat_strs (ns : List Str) : (ns.map V.str).all flatV = true := by
  rw [List.all_map]
  simp [flatV]
theorem take_fst {α : Type} {rs : List (Str × α)} {i : Nat} {nm : Str} {r : α} (h : rs[i]? = some (nm, r)) : (rs.take (i + 1)).map Prod.fst = (rs.take i).map Prod.fst ++ [nm] := by
  rw [← take_snoc h, List.map_append]
  rfl
theorem not_before {α : Type} : ∀ {rs : List (Str × α)} {i : Nat} {nm : Str} {r : α}, (rs.map Prod.fst).Nodup → rs[i]? = some (nm, r) → nm ∉ (rs.take i).map Prod.fst := by
  intro rs i nm r hn h hm
  have e := take_fst h
  have hs : ((rs.take (i + 1)).map Prod.fst).Nodup := by
    rw [List.map_take]
    exact hn.sublist (List.take_sublist _ _)
  rw [e] at hs
  have := (List.nodup_append.mp hs).2.2
  exact absurd rfl (this nm hm nm (by simp))
theorem boot_list' : bootBuiltins "list" = some (.type "list") := by decide +kernel
theorem kit_lt {K : PySem.W.Frag} : PySem.W.kitAny K (.type "list") [.type "list", .type "tuple"] = some true := by rfl
theorem sql_ty {K : PySem.W.Frag} {H : Hp} {a : Addr} {xs : List V} (h : SqL K H a xs) : TyX K H (.ref a) (.type "list") := by
  rcases h with (h | ⟨o, h⟩) | ⟨o, _, _, h, hc, _⟩
  · exact .base (.lst h)
  · exact .base (.frz h)
  · exact .kList h hc
structure SBlt (mg : Str → Option Value) : Prop where
  list : mg "list" = none
  enum : mg "enumerate" = none
  mp : ∃ t, mg "MAX_POLICIES" = some (.int 8 t)
  ms : ∃ t, mg "MAX_SERVICES" = some (.int 6 t)
  mparts : ∃ t, mg "MAX_PARTS" = some (.int 12 t)
  mspan : ∃ t, mg "MAX_SPAN" = some (.int 400 t)
theorem IsPol.ty {K : PySem.W.Frag} {C : Addr} {H : Hp} {v : V} {ds : List PyData} (h : IsPol K C H v ds) (TC : PolC K C) (TT : PolT K C) : TyX K H v (.ref C) := by
  obtain ⟨a, dx, vn, v0, v1, v2, v3, v4, v5, rfl, ha, _⟩ := h
  exact .base (.ins ha TC.cl TT.ha TT.hn TT.htk TT.hm)
section
variable {P : Program} {w : World} {K : PySem.W.Frag} {mg : Str → Option Value} {base : Heap} {f g : Addr} {fd gd : FuncData} {CX : CXT} {C : Addr}
theorem sc_check_policies : FnScope ["policies", "names", "number", "one"] ["policies"] (defScope s_check_policies) := ⟨rfl, rfl, rfl, by decide +kernel, rfl, by decide +kernel, by decide +kernel⟩
theorem ok_check_policies (F : FnP K "check_policies" s_check_policies f fd) (B : Blt mg) (SB : SBlt mg) (mC : mg "Policy" = some (.ref C)) (TC : PolC K C) (TT : PolT K C) (kit : PySem.W.kitOne K (.ref C) (.ref C) = some true) {pa ga : Nat → Addr} {ge : Nat → FuncData} (G : Getters P w K mg base C pa ga ge) :
    FnOk P w K mg base CX0 3 f fd ["policies"] (spCP K C) := by
  obtain ⟨t1, g1⟩ := SB.mp
  refine F.ok sc_check_policies (fun vs H Q E h => ?_) (fun cdv A outer s H vs Q E hr h => ?_)
  · obtain ⟨_, _, _, rfl, _⟩ := h
    rfl
  · obtain ⟨a, xs, rs, rfl, hsq, hP, hl, hn, q⟩ := h
    have hr2 := hr.mono (by decide : 2 ≤ 2)
    refine ⟨_, PSs.nox (pss_cons (ps_if (PW.pt (pw_or (pt_not (pt_val (pe_callB call_isiT rfl B.isi boot_isinstance (pa_cons (pv 0) (pa_cons (pe_tup (pa_cons (pe_bltn (v := .ty "list") rfl SB.list boot_list' rfl) (pa_cons (pe_bltn (v := .ty "tuple") rfl B.tuple boot_tup rfl) pa_nil))) pa_nil)))))
        (pw_or1 (pt_cmpR op_gt (pe_callB call_len rfl B.len PySem.boot_len (pa_cons (pv 0) pa_nil)) (pe_glob (v := .int 8) rfl g1 ⟨_, rfl⟩) (nomark _))))) (pss_one ps_never) pss_nil)
      (pss_cons (ps_set (i := 1) sc_check_policies.nd rfl (Or.inl rfl) (pe_lst pa_nil))
      (pss_one (ps_for PassesOwn.never rfl (pi_enum rfl SB.enum (pa_cons (pv 0) pa_nil)) (pg_tup rfl (pgs_cons (pg_name (i := 2) sc_check_policies.nd rfl (Or.inl rfl)) (pgs_cons (pg_name (i := 3) sc_check_policies.nd rfl (Or.inl rfl)) pgs_nil)))
        (pss_cons (ps_if (PW.pt (pw_or (pt_not (pt_val (pe_callB call_isi rfl B.isi boot_isinstance (pa_cons (pv 3) (pa_cons (pe_glob (v := .ref C) rfl mC rfl) pa_nil)))))
          (pw_or1 (pt_cmpR op_in_seq (pe_prop (pv 3) TC.cl G.p_name G.f_name hr2 G.b_name .nil pass0 rfl) (pv 1) (by rfl))))) (pss_one ps_never) pss_nil)
        (pss_one (ps_expr (pe_bm PySem.F.plainAttrs_list PySem.F.slot_list_append PySem.F.type_list_append mt_append (pv 1) (pa_cons (pe_prop (pv 3) TC.cl G.p_name G.f_name hr2 G.b_name .nil pass0 rfl) pa_nil))))))))), ?_⟩
    refine ⟨_, rfl, (by show 2 ≤ sizeLine; decide), fun tp htp => ⟨.ref a, tp, _, .type "list", [.type "list", .type "tuple"], true, rfl, upd_same, .cons (.ty _) (.cons (.ty _) .nil), sql_ty ((Same.new' htp).seq hsq), kit_lt, _, rfl, iteF ?_⟩⟩
    have s1 : Same H (upd H tp (.tup [.ty "list", .ty "tuple"])) := Same.new' htp
    have hsq1 := s1.seq hsq
    have hP1 := hP.up s1
    generalize upd H tp (.tup [.ty "list", .ty "tuple"]) = H1 at s1 hsq1 hP1 ⊢
    have el := hP.len
    refine ⟨_, rfl, _, _, rfl, .inl ⟨_, hsq1, rfl⟩, _, _, rfl, rfl, _, rfl, iteN (by rw [el]; omega) ?_⟩
    refine ⟨(by show 0 ≤ sizeLine; decide), fun nq hnq => ?_⟩
    refine ⟨_, rfl, a, xs, rfl, (Same.new' hnq).seq hsq1, for_it walk_enum (fun i σ H' => (∃ o2 o3, σ = [some (.ref a), some (.ref nq), o2, o3]) ∧ Same H1 H' ∧ H' nq = some (.lst (((rs.take i).map Prod.fst).map V.str))) ⟨⟨_, _, rfl⟩, Same.new' hnq, upd_same⟩ (fun i σ H' _ hp => hp.2.1.seq hsq1) ?_ ?_⟩
    · rintro i y σ H2 H2' hi ⟨⟨o2, o3, rfl⟩, s2, h2⟩ ⟨T, ya, yb, rfl, hT, rfl, ea, eb⟩
      cases ea
      have eb' : xs[i]? = some yb := eb
      obtain ⟨nm, row, hri, hpol⟩ := hP1.at eb'
      have sT := Same.new' (o := .tup [.int (i : Nat), yb]) hT
      have tT : upd H2 T (.tup [.int (i : Nat), yb]) T = some (.tup [.int (i : Nat), yb]) := upd_same
      have h3 := sT _ _ h2
      have s3 := s2.trans sT
      generalize upd H2 T (.tup [.int (i : Nat), yb]) = H3 at tT h3 s3 ⊢
      have hp3 := hpol.up s3
      obtain ⟨pa', pdx, vn, v0, v1, v2, v3, v4, v5, rfl, hpa, hpd⟩ := id hp3
      obtain ⟨_, _, _, _, _, _, _, ee, hvn, _⟩ := dqA7 hpd
      cases ee
      cases hvn
      refine ⟨T, _, rfl, SqT.of tT, rfl, _, _, rfl, _, _, rfl, rfl, ?_⟩
      refine ⟨_, rfl, _, .ref C, .ref C, .ref C, true, rfl, .own C, hp3.ty TC TT, kit, _, rfl, iteF ?_⟩
      refine ⟨_, rfl, pa', pdx, _, rfl, hpa, pa', pdx, _, .str nm, rfl, hpa, rfl, _, rfl, nq, _, rfl, .inl (SqL.of h3), rfl, flat_strs _, _, rfl, ?_⟩
      rw [in_strs]
      refine iteN (not_before hn hri) ?_
      have hlt : i < rs.length := by rw [← el]; exact hi
      refine ⟨_, rfl, .inl ⟨rfl, _, SqL.of h3⟩, _, rfl, pa', pdx, _, rfl, hpa, pa', pdx, _, .str nm, rfl, hpa, rfl, nq, _, _, rfl, rfl, h3, ?_, ?_⟩
      · rw [List.length_map, List.length_map, List.length_take]
        exact Nat.lt_of_le_of_lt (Nat.min_le_right _ _) (Nat.lt_of_le_of_lt hl (by decide))
      · refine ⟨⟨_, _, rfl⟩, s3.mut hnq, ?_⟩
        rw [upd_same, take_fst hri, List.map_append]
        rfl
    · rintro σ H2 ⟨⟨o2, o3, rfl⟩, s2, h2⟩
      exact q _ (s1.trans s2)
theorem sc_check_services : FnScope ["services", "names", "number", "one"] ["services"] (defScope s_check_services) := ⟨rfl, rfl, rfl, by decide +kernel, rfl, by decide +kernel, by decide +kernel⟩
theorem ok_check_services {gN : Addr} {eN : FuncData} (F : FnP K "check_services" s_check_services f fd) (B : Blt mg) (SB : SBlt mg) (GN : FnP K "is_name" s_is_name gN eN) (mN : mg "is_name" = some (.ref gN)) : FnOk P w K mg base CX0 2 f fd ["services"] (spCS K) := by
  obtain ⟨t1, g1⟩ := SB.ms
  have bN : Binds K eN ["value"] [] := GN.bindsN fun _ _ _ _ _ _ us hl => match us, hl with | [_], _ => rfl
  have FN : FnOk P w K mg base CX0 1 gN eN ["value"] (spName K) := ok_is_name GN B
  refine F.ok sc_check_services (fun vs H Q E h => ?_) (fun cdv A outer s H vs Q E hr h => ?_)
  · obtain ⟨_, _, rfl, _⟩ := h
    rfl
  · obtain ⟨v, srv, rfl, hd, l1, l2, hn, hnm, q⟩ := h
    refine ⟨_, PSs.nox (pss_cons (ps_if (PW.pt (pw_or (pt_not (pt_val (pe_callB call_isiT rfl B.isi boot_isinstance (pa_cons (pv 0) (pa_cons (pe_tup (pa_cons (pe_bltn (v := .ty "list") rfl SB.list boot_list' rfl) (pa_cons (pe_bltn (v := .ty "tuple") rfl B.tuple boot_tup rfl) pa_nil))) pa_nil)))))
        (pw_or1 (pt_not (pt_chain op_le op_le pe_int (pe_callB call_len rfl B.len PySem.boot_len (pa_cons (pv 0) pa_nil)) (pe_glob (v := .int 6) rfl g1 ⟨_, rfl⟩)))))) (pss_one ps_never) pss_nil)
      (pss_cons (ps_set (i := 1) sc_check_services.nd rfl (Or.inl rfl) (pe_lst pa_nil))
      (pss_one (ps_for PassesOwn.never rfl (pi_enum rfl SB.enum (pa_cons (pv 0) pa_nil)) (pg_tup rfl (pgs_cons (pg_name (i := 2) sc_check_services.nd rfl (Or.inl rfl)) (pgs_cons (pg_name (i := 3) sc_check_services.nd rfl (Or.inl rfl)) pgs_nil)))
        (pss_cons (ps_if (PW.pt (pw_or (pt_not (pt_val (pe_callB call_isD rfl B.isi boot_isinstance (pa_cons (pv 3) (pa_cons (pe_bltn (v := .ty "tuple") rfl B.tuple boot_tup rfl) pa_nil)))))
          (pw_or (pt_cmpR op_ne (pe_callB call_len rfl B.len PySem.boot_len (pa_cons (pv 3) pa_nil)) pe_int (nomark _))
          (pw_or (pt_not (pt_val (pe_call FN hr rfl mN GN.kp bN .nil pass0 (pa_cons (pe_ix ix_tup (pv 3) pe_int (fun _ _ => rfl)) pa_nil))))
          (pw_or1 (pt_not (pt_val (pe_callB call_isD rfl B.isi boot_isinstance (pa_cons (pe_ix ix_tup (pv 3) pe_int (fun _ _ => rfl)) (pa_cons (pe_bltn (v := .ty "tuple") rfl B.tuple boot_tup rfl) pa_nil)))))))))) (pss_one ps_never) pss_nil)
        (pss_cons (ps_if (pt_cmpR op_in_seq (pe_ix ix_tup (pv 3) pe_int (fun _ _ => rfl)) (pv 1) (by rfl)) (pss_one ps_never) pss_nil)
        (pss_one (ps_expr (pe_bm PySem.F.plainAttrs_list PySem.F.slot_list_append PySem.F.type_list_append mt_append (pv 1) (pa_cons (pe_ix ix_tup (pv 3) pe_int (fun _ _ => rfl)) pa_nil)))))))))), ?_⟩
    cases hd with
    | @lst a xs _ hsq ha =>
      refine ⟨_, rfl, (by show 2 ≤ sizeLine; decide), fun tp htp => ⟨.ref a, tp, _, .type "list", [.type "list", .type "tuple"], true, rfl, upd_same, .cons (.ty _) (.cons (.ty _) .nil), sql_ty ((Same.new' htp).seq hsq), kit_lt, _, rfl, iteF ?_⟩⟩
      have s1 : Same H (upd H tp (.tup [.ty "list", .ty "tuple"])) := Same.new' htp
      have hsq1 := s1.seq hsq
      have ha1 := ha.up s1
      generalize upd H tp (.tup [.ty "list", .ty "tuple"]) = H1 at s1 hsq1 ha1 ⊢
      have el : xs.length = srv.length := by rw [ha.len]; exact List.length_map _
      refine ⟨_, rfl, _, _, rfl, .inl ⟨_, hsq1, rfl⟩, _, _, rfl, rfl, _, rfl, iteY (by rw [el]; omega) ⟨_, _, rfl, rfl, _, rfl, iteNY (by rw [el]; omega) ?_⟩⟩
      refine ⟨(by show 0 ≤ sizeLine; decide), fun nq hnq => ?_⟩
      refine ⟨_, rfl, a, xs, rfl, (Same.new' hnq).seq hsq1, for_it walk_enum (fun i σ H' => (∃ o2 o3, σ = [some (.ref a), some (.ref nq), o2, o3]) ∧ Same H1 H' ∧ H' nq = some (.lst (((srv.take i).map Prod.fst).map V.str))) ⟨⟨_, _, rfl⟩, Same.new' hnq, upd_same⟩ (fun i σ H' _ hp => hp.2.1.seq hsq1) ?_ ?_⟩
      · rintro i y σ H2 H2' hi ⟨⟨o2, o3, rfl⟩, s2, h2⟩ ⟨T, ya, yb, rfl, hT, rfl, ea, eb⟩
        cases ea
        have eb' : xs[i]? = some yb := eb
        obtain ⟨d, hdi, hyd⟩ := ha1.at eb'
        unfold srvD at hdi
        rw [List.getElem?_map] at hdi
        obtain ⟨sv, hsi, rfl⟩ : ∃ sv, srv[i]? = some sv ∧ PyData.tuple [.str sv.1, .tuple sv.2] = d := by
          cases e : srv[i]? with
          | none => rw [e] at hdi; cases hdi
          | some sv => rw [e] at hdi; exact ⟨sv, rfl, Option.some.inj hdi⟩
        have sT := Same.new' (o := .tup [.int (i : Nat), yb]) hT
        have tT : upd H2 T (.tup [.int (i : Nat), yb]) T = some (.tup [.int (i : Nat), yb]) := upd_same
        have h3 := sT _ _ h2
        have s3 := s2.trans sT
        generalize upd H2 T (.tup [.int (i : Nat), yb]) = H3 at tT h3 s3 ⊢
        have hy3 := hyd.up s3
        refine ⟨T, _, rfl, SqT.of tT, rfl, _, _, rfl, _, _, rfl, rfl, ?_⟩
        refine ⟨_, rfl, yb, _, "tuple", rfl, hy3, tok_tuple, _, rfl, ?_⟩
        rw [isA_tuple]
        cases hy3 with
        | @tup b ys _ hsb hb =>
          cases hb with
          | @cons y0 ys _ _ k0 kr =>
            cases kr with
            | @cons y1 ys _ _ k1 kr =>
              cases kr
              cases k0
              have nmi : isName (.str sv.1) = true := hnm sv (List.mem_of_getElem? hsi)
              refine iteF ⟨_, rfl, _, _, rfl, .inr ⟨_, hsb, rfl⟩, rfl, _, rfl, iteNY rfl ?_⟩
              refine ⟨_, rfl, b, _, 0, _, rfl, rfl, hsb, at0, _, .str sv.1, rfl, .str _ (by assumption), fun H4 s4 => ⟨_, rfl, ?_⟩⟩
              rw [nmi]
              refine iteF ⟨_, rfl, b, _, 1, y1, rfl, rfl, SqT.upT s4 hsb, rfl, y1, _, "tuple", rfl, k1.up s4, tok_tuple, _, rfl, ?_⟩
              rw [isA_tuple]
              refine iteF ?_
              have h4 := s4 _ _ h3
              refine ⟨_, rfl, b, _, 0, _, rfl, rfl, SqT.upT s4 hsb, at0, _, rfl, nq, _, rfl, .inl (SqL.of h4), rfl, flat_strs _, _, rfl, ?_⟩
              rw [in_strs]
              refine iteN (not_before (r := sv.2) hn hsi) ?_
              refine ⟨_, rfl, .inl ⟨rfl, _, SqL.of h4⟩, _, rfl, b, _, 0, _, rfl, rfl, SqT.upT s4 hsb, at0, nq, _, _, rfl, rfl, h4, ?_, ?_⟩
              · rw [List.length_map, List.length_map, List.length_take]
                exact Nat.lt_of_le_of_lt (Nat.min_le_right _ _) (Nat.lt_of_le_of_lt l2 (by decide))
              · refine ⟨⟨_, _, rfl⟩, (s3.trans s4).mut hnq, ?_⟩
                rw [upd_same, take_fst (nm := sv.1) (r := sv.2) hsi, List.map_append]
                rfl
      · rintro σ H2 ⟨⟨o2, o3, rfl⟩, s2, h2⟩
        exact q _ (s1.trans s2)
end
end K07
namespace K07
open PySem PySem.Spec PyProof.Rows L2
/-! ### all parts are among the rows, where all rows are right -/
theorem numI_sub {g : List PyData → Int → List Row} {first : Int} : ∀ (bs : List PyData) (acc : List Row), ∀ r ∈ acc, r ∈ (numI g first bs acc).1
  | [], acc, r, h => h
  | b :: bs, acc, r, h => by
    rw [numI]
    split
    · exact List.mem_append_left _ h
    · exact numI_sub bs _ r (List.mem_append_left _ h)
theorem numI_all {g : List PyData → Int → List Row} {first : Int} : ∀ (bs : List PyData) (acc : List Row), (numI g first bs acc).2 = false → ∀ b ∈ bs, ∃ f', ∀ r ∈ g (elems b) f', r ∈ (numI g first bs acc).1
  | [], _, _, b, hb => by cases hb
  | c :: bs, acc, h, b, hb => by
    rw [numI] at h ⊢
    split at h
    · cases h
    · rename_i hh
      rw [if_neg hh]
      rcases List.mem_cons.mp hb with rfl | hb
      · exact ⟨_, fun r hr => numI_sub bs _ r (List.mem_append_right _ hr)⟩
      · exact numI_all bs _ h b hb
theorem badLast_mem {rs : List Row} (h : badLast rs = true) : ∃ r ∈ rs, badRow r = true := by
  unfold badLast at h
  cases e : rs.getLast? with
  | none => rw [e] at h; cases h
  | some r => rw [e] at h; exact ⟨r, List.mem_of_getLast? e, h⟩
theorem numI_bad {g : List PyData → Int → List Row} {first : Int} : ∀ (bs : List PyData) (acc : List Row), (numI g first bs acc).2 = true → ∃ r ∈ (numI g first bs acc).1, badRow r = true
  | [], _, h => by cases h
  | c :: bs, acc, h => by
    rw [numI] at h ⊢
    split at h
    · rename_i hh
      rw [if_pos hh]
      exact badLast_mem hh
    · rename_i hh
      rw [if_neg hh]
      exact numI_bad bs _ h
theorem numL_sub {g : List PyData → Int → List Row} {dep first : Int} : ∀ (ds : List PyData) (acc : List Row), ∀ r ∈ acc, r ∈ numL g dep first ds acc
  | [], _, r, h => h
  | d :: ds, acc, r, h => by
    have w := numI_sub (g := g) (first := first) (innerW d) (acc ++ [(first + acc.length, d, dep)]) r (List.mem_append_left _ h)
    rw [numL]
    split
    · split
      · exact w
      · exact numL_sub ds _ r w
    · exact List.mem_append_left _ h
theorem numL_all {g : List PyData → Int → List Row} {dep first : Int} {Ok : Row → Prop} (hok : ∀ r, Ok r → badRow r = false) : ∀ (ds : List PyData) (acc : List Row), (∀ r ∈ numL g dep first ds acc, Ok r) →
    ∀ d ∈ ds, isPart d dep = true ∧ (∃ i, Ok (i, d, dep)) ∧ ∀ b ∈ innerW d, ∃ f', ∀ r ∈ g (elems b) f', Ok r
  | [], _, _, d, hd => by cases hd
  | d0 :: ds, acc, h, d, hd => by
    have e0 : isPart d0 dep = true := by
      cases e : isPart d0 dep with
      | true => rfl
      | false =>
        rw [numL_no e] at h
        have z := hok _ (h (first + acc.length, d0, dep) (by simp))
        have z' : (!isPart d0 dep) = false := z
        rw [e] at z'
        cases z'
    generalize hR : numI g first (innerW d0) (acc ++ [(first + acc.length, d0, dep)]) = R at *
    have e1 : R.2 = false := by
      cases e : R.2 with
      | false => rfl
      | true =>
        have hL : numL g dep first (d0 :: ds) acc = R.1 := numL_stop (R := R.1) e0 (by rw [hR, ← e])
        rw [hL] at h
        obtain ⟨r, hr, hb⟩ := numI_bad (g := g) (first := first) (innerW d0) (acc ++ [(first + acc.length, d0, dep)]) (by rw [hR]; exact e)
        rw [hR] at hr
        rw [hok r (h r hr)] at hb
        cases hb
    have hL : numL g dep first (d0 :: ds) acc = numL g dep first ds R.1 := numL_go (R := R.1) e0 (by rw [hR, ← e1])
    rw [hL] at h
    rcases List.mem_cons.mp hd with rfl | hd
    · refine ⟨e0, ⟨first + acc.length, h _ (numL_sub ds _ _ ?_)⟩, fun b hb => ?_⟩
      · rw [← hR]
        exact numI_sub _ _ _ (by simp)
      · obtain ⟨f', hf⟩ := numI_all (g := g) (first := first) (innerW d) (acc ++ [(first + acc.length, d, dep)]) (by rw [hR]; exact e1) b hb
        rw [hR] at hf
        exact ⟨f', fun r hr => h r (numL_sub ds _ r (hf r hr))⟩
    · exact numL_all hok ds R.1 h d hd
theorem num_VP {PS : Str → Prop} {Ok : Row → Prop} (hok : ∀ r, Ok r → badRow r = false) (hps : ∀ r, Ok r → callW r.2.1 = true → PS (polName r.2.1)) : ∀ (n : Nat) (ds : List PyData) (first dep : Int), dep = 2 - (n : Int) → (∀ r ∈ num (n + 1) ds first dep, Ok r) → ∀ d ∈ ds, VP PS n d
  | 0, ds, first, dep, hd, h, d, hm => by
    obtain ⟨h1, ⟨i, h2⟩, h3⟩ := numL_all hok ds [] h d hm
    subst hd
    exact ⟨h1, hps _ h2⟩
  | n + 1, ds, first, dep, hd, h, d, hm => by
    obtain ⟨h1, ⟨i, h2⟩, h3⟩ := numL_all hok ds [] h d hm
    subst hd
    refine ⟨h1, hps _ h2, fun b hb e he => ?_⟩
    obtain ⟨f', hf⟩ := h3 b hb
    exact num_VP hok hps n (elems b) f' _ (by omega) hf e he
def badPlace (rs : List Row) : Option Int := match rs with
  | [] => none
  | r :: rs => if 12 ≤ r.1 ∨ isPart r.2.1 r.2.2 = false then some r.1 else badPlace rs
theorem badPlace_none : ∀ {rs : List Row}, badPlace rs = none → ∀ r ∈ rs, r.1 < 12 ∧ isPart r.2.1 r.2.2 = true
  | [], _, r, h => by cases h
  | a :: rs, h, r, hr => by
    rw [badPlace] at h
    split at h
    · cases h
    · rename_i hh
      rcases List.mem_cons.mp hr with rfl | hr
      · exact ⟨by omega, by cases e : isPart r.2.1 r.2.2 with | true => rfl | false => exact absurd (.inr e) hh⟩
      · exact badPlace_none h r hr
def calleeN (d : PyData) : Str := match d with
  | .tuple [_, .str p, _] => p
  | _ => ""
def badCall (ahead pol : Str → Bool) : List PyData → Option Str
  | [] => none
  | d :: ds => if callW d = true then (if ahead (calleeN d) = false then some (calleeN d) else if pol (polName d) = false then some (polName d) else badCall ahead pol ds) else badCall ahead pol ds
theorem badCall_none {ahead pol : Str → Bool} : ∀ {ds : List PyData}, badCall ahead pol ds = none → ∀ d ∈ ds, callW d = true → pol (polName d) = true
  | [], _, d, h, _ => by cases h
  | a :: ds, h, d, hd, hc => by
    rw [badCall] at h
    rcases List.mem_cons.mp hd with rfl | hd
    · rw [if_pos hc] at h
      split at h
      · cases h
      · split at h
        · cases h
        · rename_i hh
          cases e : pol (polName d) with
          | true => rfl
          | false => exact absurd e hh
    · split at h
      · split at h
        · cases h
        · split at h
          · cases h
          · exact badCall_none h d hd hc
      · exact badCall_none h d hd hc
/-- a call part that is right: its words -/
theorem call_shape {d : PyData} {dep : Int} (h : isPart d dep = true) (hc : callW d = true) : ∃ z a p, d = .tuple [.str z, .str a, .str p] := by
  obtain ⟨z, ds, rfl⟩ := isPart_head h
  have hzz : z = "call" ∨ z = "want" := of_decide_eq_true hc
  obtain ⟨hlen, hpo⟩ := part_len h
  have hl2 : ds.length = 2 := by
    have e : (sizes z).getD 0 = (3 : Int) := by rcases hzz with rfl | rfl <;> decide +kernel
    rw [e] at hlen
    omega
  rw [part_call hzz, Bool.and_eq_true] at hpo
  match ds, hl2, hpo with
  | [.str a, .str p], _, _ => exact ⟨z, a, p, rfl⟩
theorem dqA_strs3 {K : PySem.W.Frag} {H : Hp} {tl : List V} {a b c : Str} (h : DqA K H tl [.str a, .str b, .str c]) : tl = [.str a, .str b, .str c] := by
  cases h with
  | cons h1 t =>
    cases t with
    | cons h2 t =>
      cases t with
      | cons h3 t =>
        cases t
        cases h1
        cases h2
        cases h3
        rfl
def hasK (kvs : List (Key × V)) (p : Str) : Bool := (valV kvs (Sum.inr p)).isSome
def spanTop (L : Str → Int) (ds : List PyData) : Int := (ds.map (spanP L 2)).sum
def spCB (K : PySem.W.Frag) (C CPt CU CT : Addr) : Sp := fun vs H Q E => ∃ (nm : Str) (v : V) (da dp : Addr) (ds : List PyData) (akv pkv : List (Key × V)) (L : Str → Int), vs = [.str nm, v, .ref da, .ref dp] ∧ Dq K H v (.tuple ds) ∧ Sm (.tuple ds) ∧ H da = some (.dK akv) ∧ H dp = some (.dK pkv) ∧
  PolD K C H dp (fun p => hasK pkv p = true) L ∧
  (∀ i, badPlace (num 3 ds 0 0) = some i → ∀ H' d, Same H H' → H' d = none → E (.ref CPt) (some d) (upd H' d (.xd [("place", .int i), ("service", .str nm)]))) ∧
  (badPlace (num 3 ds 0 0) = none → ∀ z, badCall (hasK akv) (hasK pkv) (partsW ds) = some z → ∀ H' d, Same H H' → H' d = none → E (.ref CU) (some d) (upd H' d (.xd [("value", .str z)]))) ∧
  (badPlace (num 3 ds 0 0) = none → badCall (hasK akv) (hasK pkv) (partsW ds) = none → 400 < spanTop L ds → ∀ H' d, Same H H' → H' d = none → E (.ref CT) (some d) (upd H' d (.xd [("service", .str nm)]))) ∧
  (badPlace (num 3 ds 0 0) = none → badCall (hasK akv) (hasK pkv) (partsW ds) = none → spanTop L ds ≤ 400 → ∀ H', Same H H' → Q .non H')
section
variable {P : Program} {w : World} {K : PySem.W.Frag} {mg : Str → Option Value} {base : Heap} {f g : Addr} {fd gd : FuncData} {CX : CXT} {C : Addr}
theorem sc_check_block : FnScope ["name", "block", "ahead", "policies", "place", "part", "depth"] ["name", "block", "ahead", "policies"] (defScope s_check_block) := ⟨rfl, rfl, rfl, by decide +kernel, rfl, by decide +kernel, by decide +kernel⟩
theorem ok_check_block {gN gP gPs gC gB CPt fPt CU fU CT fT : Addr} {eN eP ePs eC eB : FuncData} (F : FnP K "check_block" s_check_block f fd) (SB : SBlt mg) (GN : FnP K "numbered" s_numbered gN eN) (mN : mg "numbered" = some (.ref gN)) (FN : FnOk P w K mg base CX0 6 gN eN ["block", "first", "depth"] (spNum K 3))
    (GP : FnP K "is_part" s_is_part gP eP) (mP : mg "is_part" = some (.ref gP)) (FP : FnOk P w K mg base CX0 3 gP eP ["value", "depth"] (spPart K)) (GPs : FnP K "parts_of" s_parts_of gPs ePs) (mPs : mg "parts_of" = some (.ref gPs)) (FPs : FnOk P w K mg base CX0 7 gPs ePs ["block"] (spParts K))
    (GC : FnP K "is_call" s_is_call gC eC) (mC : mg "is_call" = some (.ref gC)) (GB : FnP K "block_span" s_block_span gB eB) (mB : mg "block_span" = some (.ref gB)) (FB : ∀ PS L, FnOk P w K mg base CX0 9 gB eB ["block", "policies"] (spBS K C PS L 3))
    (TPt : ETx P K mg "InvalidPart" CPt fPt "ValueError" "ValueError.__new__" "ValueError.__init__" PySem.MEX.bmV) (KPt : PySem.MEX.EFn2 P K CPt fPt "service" "place") (TU : ETx P K mg "UnknownName" CU fU "LookupError" "LookupError.__new__" "LookupError.__init__" PySem.MEX.bmL) (KU : PySem.MEX.EFn1 P K CU fU "value")
    (TT : ETx P K mg "TooLong" CT fT "OverflowError" "OverflowError.__new__" "OverflowError.__init__" PySem.MEX.bmO) (KT : PySem.MEX.EFn1 P K CT fT "service") : FnOk P w K mg base (L2.CX P w) 10 f fd ["name", "block", "ahead", "policies"] (spCB K C CPt CU CT) := by
  obtain ⟨t1, g1⟩ := SB.mparts
  obtain ⟨t2, g2⟩ := SB.mspan
  have bN : Binds K eN ["block", "first", "depth"] [] := GN.bindsN fun _ _ _ _ _ _ us hl => match us, hl with | [_, _, _], _ => rfl
  have bP : Binds K eP ["value", "depth"] [] := GP.bindsN fun _ _ _ _ _ _ us hl => match us, hl with | [_, _], _ => rfl
  have bPs : Binds K ePs ["block"] [] := GPs.bindsN fun _ _ _ _ _ _ us hl => match us, hl with | [_], _ => rfl
  have bC : Binds K eC ["part"] [] := GC.bindsN fun _ _ _ _ _ _ us hl => match us, hl with | [_], _ => rfl
  have bB : Binds K eB ["block", "policies"] [] := GB.bindsN fun _ _ _ _ _ _ us hl => match us, hl with | [_, _], _ => rfl
  have FC : FnOk P w K mg base CX0 1 gC eC ["part"] (spCall K) := ok_is_call GC
  refine F.ok sc_check_block (fun vs H Q E h => ?_) (fun cdv A outer s H vs Q E hr h => ?_)
  · obtain ⟨_, _, _, _, _, _, _, _, rfl, _⟩ := h
    rfl
  · obtain ⟨nm, v, da, dp, ds, akv, pkv, L, rfl, hd, hs, hda, hdp, hpol, qP, qU, qT, qY⟩ := h
    have hu := hu_of hr
    have hr1 := hr.mono (by decide : 1 ≤ 9)
    have hr3 := hr.mono (by decide : 3 ≤ 9)
    have hr6 := hr.mono (by decide : 6 ≤ 9)
    have hr7 := hr.mono (by decide : 7 ≤ 9)
    have FB' := FB (fun p => hasK pkv p = true) L
    refine ⟨_, (pss_cons (ps_for (passes_of rfl) rfl (pi_list (pe_call FN hr6 rfl mN GN.kp bN .nil pass0 (pa_cons (pv 1) (pa_cons pe_int (pa_cons pe_int pa_nil))))) (pg_tup rfl (pgs_cons (pg_name (i := 4) sc_check_block.nd rfl (Or.inl rfl)) (pgs_cons (pg_name (i := 5) sc_check_block.nd rfl (Or.inl rfl)) (pgs_cons (pg_name (i := 6) sc_check_block.nd rfl (Or.inl rfl)) pgs_nil))))
        (pss_one (ps_if (PW.pt (pw_or (pt_cmpR op_ge (pv 4) (pe_glob (v := .int 12) rfl g1 ⟨_, rfl⟩) (nomark _)) (pw_or1 (pt_not (pt_val (pe_call FP hr3 rfl mP GP.kp bP .nil pass0 (pa_cons (pv 5) (pa_cons (pv 6) pa_nil)))))))) (pss_one (ps_raiseE2 rfl TPt KPt hr (takes_of rfl rfl rfl rfl) (pa_cons (pv 0) (pa_cons (pv 4) pa_nil)))) pss_nil)))
      (pss_cons (ps_for (passes_of rfl) rfl (pi_list (pe_call FPs hr7 rfl mPs GPs.kp bPs .nil pass0 (pa_cons (pv 1) pa_nil))) (pg_name (i := 5) sc_check_block.nd rfl (Or.inl rfl))
        (pss_one (ps_if (pt_val (pe_call FC hr1 rfl mC GC.kp bC .nil pass0 (pa_cons (pv 5) pa_nil)))
          (pss_cons (ps_if (pt_cmp (pc_dnotin hu (pe_ix ix_tup (pv 5) pe_int (fun _ _ => rfl)) (pv 2))) (pss_one (ps_raiseE1 rfl TU KU hr (takes_of rfl rfl rfl rfl) (pa_cons (pe_ix ix_tup (pv 5) pe_int (fun _ _ => rfl)) pa_nil))) pss_nil)
          (pss_one (ps_if (pt_cmp (pc_dnotin hu (pe_ix ix_tup (pv 5) pe_int (fun _ _ => rfl)) (pv 3))) (pss_one (ps_raiseE1 rfl TU KU hr (takes_of rfl rfl rfl rfl) (pa_cons (pe_ix ix_tup (pv 5) pe_int (fun _ _ => rfl)) pa_nil))) pss_nil))) pss_nil)))
      (pss_one (ps_if (pt_cmpR op_gt (pe_call FB' hr rfl mB GB.kp bB .nil pass0 (pa_cons (pv 1) (pa_cons (pv 3) pa_nil))) (pe_glob (v := .int 400) rfl g2 ⟨_, rfl⟩) (nomark _)) (pss_one (ps_raiseE1 rfl TT KT hr (takes_of rfl rfl rfl rfl) (pa_cons (pv 0) pa_nil))) pss_nil)))), ?_⟩
    have smr := num_sm 3 ds 0 0 hs.elem
    refine ⟨_, rfl, v, ds, 0, 0, H, rfl, Same.refl H, hd, hs, by decide, by decide, fun r xs H1 s1 hr0 hr1 hA => ⟨r, rfl, ⟨_, SqL.of hr1⟩, ?_⟩⟩
    have hA1 := hA.up (mix_in s1)
    have el : xs.length = (num 3 ds 0 0).length := by rw [hA.len, List.length_map]
    refine for_list (xs := xs) (fun i σ H' => (∃ o4 o5 o6, σ = [some (.str nm), some v, some (.ref da), some (.ref dp), o4, o5, o6]) ∧ Same H1 H' ∧ badPlace (num 3 ds 0 0) = badPlace ((num 3 ds 0 0).drop i)) ⟨⟨_, _, _, rfl⟩, Same.refl H1, rfl⟩ (fun i σ H' _ hP => SqL.of (hP.2.1 _ _ hr1)) (fun i x σ H' hx hP => ?_) (fun σ H2 hP => ?_)
    · obtain ⟨⟨o4, o5, o6, rfl⟩, sH, hB⟩ := hP
      obtain ⟨d, hdi, hxd⟩ := hA1.at hx
      rw [List.getElem?_map] at hdi
      obtain ⟨⟨ri, rd, rp⟩, hri, rfl⟩ : ∃ row, (num 3 ds 0 0)[i]? = some row ∧ rowD row = d := by
        cases e : (num 3 ds 0 0)[i]? with
        | none => rw [e] at hdi; cases hdi
        | some row => rw [e] at hdi; exact ⟨row, rfl, Option.some.inj hdi⟩
      have hil : i < (num 3 ds 0 0).length := (List.getElem?_eq_some_iff.mp hri).1
      have edr : (num 3 ds 0 0).drop i = (ri, rd, rp) :: (num 3 ds 0 0).drop (i + 1) := by
        rw [List.drop_eq_getElem_cons hil]
        have := (List.getElem?_eq_some_iff.mp hri).2
        rw [this]
      rw [edr, badPlace] at hB
      have hx' := hxd.up sH
      cases hx' with
      | @tup T tl _ hT hTa =>
        obtain ⟨wv, rfl, hw⟩ := dqA_row hTa
        refine ⟨T, _, rfl, hT, rfl, _, _, rfl, _, _, rfl, _, _, rfl, rfl, ?_⟩
        refine ⟨_, rfl, _, _, rfl, rfl, _, rfl, ?_⟩
        by_cases h12 : ri ≥ 12
        · rw [if_pos (.inl h12)] at hB
          exact iteY h12 (iteT ⟨_, rfl, _, rfl, rfl, fun d hd' => qP ri hB H' d (s1.trans sH) hd'⟩)
        · refine iteN h12 ⟨_, rfl, _, rfl, wv, rd, rp, rfl, hw, smr _ (List.mem_of_getElem? hri), fun H2 s2 => ⟨_, rfl, ?_⟩⟩
          cases ep : isPart rd rp with
          | false =>
            rw [if_pos (.inr ep)] at hB
            exact iteT ⟨_, rfl, _, rfl, rfl, fun d hd' => qP ri hB H2 d ((s1.trans sH).trans s2) hd'⟩
          | true =>
            rw [if_neg (by rw [ep]; simp; omega)] at hB
            exact iteF ⟨⟨_, _, _, rfl⟩, sH.trans s2, hB⟩
    · obtain ⟨⟨o4, o5, o6, rfl⟩, sH, hB⟩ := hP
      have hN : badPlace (num 3 ds 0 0) = none := by rw [hB, el, List.drop_length]; rfl
      have hval := badPlace_none hN
      have s2 := s1.trans sH
      have hd2 := hd.up s2
      refine ⟨_, rfl, v, ds, H2, rfl, Same.refl H2, hd2, hs, fun r2 xs2 H3 s3 hr2 h3 hA2 => ⟨r2, rfl, ⟨_, SqL.of h3⟩, ?_⟩⟩
      have hA3 := hA2.up (mix_in s3)
      have el2 : xs2.length = (partsW ds).length := hA2.len
      have sH3 := s2.trans s3
      have hpv : ∀ d ∈ partsW ds, ∃ dep, isPart d dep = true := by
        intro d hd'
        obtain ⟨row, h1, rfl⟩ := List.mem_map.mp hd'
        exact ⟨_, (hval row h1).2⟩
      refine for_list (xs := xs2) (fun i σ H' => (∃ o4 o5 o6, σ = [some (.str nm), some v, some (.ref da), some (.ref dp), o4, o5, o6]) ∧ Same H3 H' ∧ badCall (hasK akv) (hasK pkv) (partsW ds) = badCall (hasK akv) (hasK pkv) ((partsW ds).drop i)) ⟨⟨_, _, _, rfl⟩, Same.refl H3, rfl⟩ (fun i σ H' _ hP => SqL.of (hP.2.1 _ _ h3)) (fun i x σ H' hx hP => ?_) (fun σ H4 hP => ?_)
      · obtain ⟨⟨o4, o5, o6, rfl⟩, sH4, hC⟩ := hP
        obtain ⟨d, hdi, hxd⟩ := hA3.at hx
        have hil : i < (partsW ds).length := (List.getElem?_eq_some_iff.mp hdi).1
        have edr : (partsW ds).drop i = d :: (partsW ds).drop (i + 1) := by
          rw [List.drop_eq_getElem_cons hil]
          have := (List.getElem?_eq_some_iff.mp hdi).2
          rw [this]
        rw [edr, badCall] at hC
        obtain ⟨dep, hpt⟩ := hpv d (List.mem_of_getElem? hdi)
        refine ⟨_, rfl, x, d, rfl, hxd.up sH4, isPart_head hpt, fun H5 s5 => ⟨_, rfl, ?_⟩⟩
        cases ec : callW d with
        | false =>
          rw [if_neg (by rw [ec]; decide)] at hC
          exact iteF ⟨⟨_, _, _, rfl⟩, sH4.trans s5, hC⟩
        | true =>
          rw [if_pos ec] at hC
          obtain ⟨z, ca, cp, rfl⟩ := call_shape hpt ec
          have sH5 := sH3.trans (sH4.trans s5)
          have hx5 := (hxd.up sH4).up s5
          cases hx5 with
          | @tup T tl _ hT hTa =>
            obtain rfl := dqA_strs3 hTa
            have hC' : badCall (hasK akv) (hasK pkv) (partsW ds) = (if hasK akv ca = false then some ca else if hasK pkv cp = false then some cp else badCall (hasK akv) (hasK pkv) ((partsW ds).drop (i + 1))) := hC
            refine iteT ⟨_, rfl, T, _, 1, _, rfl, rfl, hT, rfl, _, rfl, da, _, rfl, DGet.k (k := Sum.inr ca) (sH5 _ _ hda), _, rfl, ?_⟩
            cases ea : hasK akv ca with
            | false =>
              rw [if_pos ea] at hC'
              rw [show (valV akv (Sum.inr ca)).isSome = false from ea]
              exact iteT ⟨_, rfl, T, _, 1, _, rfl, rfl, hT, rfl, rfl, fun d hd' => qU hN ca hC' H5 d sH5 hd'⟩
            | true =>
              rw [if_neg (by rw [ea]; decide)] at hC'
              rw [show (valV akv (Sum.inr ca)).isSome = true from ea]
              refine iteF ⟨_, rfl, T, _, 2, _, rfl, rfl, hT, rfl, _, rfl, dp, _, rfl, DGet.k (k := Sum.inr cp) (sH5 _ _ hdp), _, rfl, ?_⟩
              cases eb : hasK pkv cp with
              | false =>
                rw [if_pos eb] at hC'
                rw [show (valV pkv (Sum.inr cp)).isSome = false from eb]
                exact iteT ⟨_, rfl, T, _, 2, _, rfl, rfl, hT, rfl, rfl, fun d hd' => qU hN cp hC' H5 d sH5 hd'⟩
              | true =>
                rw [if_neg (by rw [eb]; decide)] at hC'
                rw [show (valV pkv (Sum.inr cp)).isSome = true from eb]
                exact iteF ⟨⟨_, _, _, rfl⟩, sH4.trans s5, hC'⟩
      · obtain ⟨⟨o4, o5, o6, rfl⟩, sH4, hC⟩ := hP
        have hCn : badCall (hasK akv) (hasK pkv) (partsW ds) = none := by rw [hC, el2, List.drop_length]; rfl
        have sH5 := sH3.trans sH4
        refine ⟨_, rfl, _, rfl, v, ds, dp, rfl, hd.up sH5, hs, num_VP (Ok := fun r => r ∈ num 3 ds 0 0) (fun r hr => by show (!isPart r.2.1 r.2.2) = false; rw [(hval r hr).2]; rfl) (fun r hr hc => badCall_none hCn r.2.1 (List.mem_map.mpr ⟨r, hr, rfl⟩) hc) 2 ds 0 0 (by decide) (fun r hr => hr), hpol.up sH5, fun H5 s5 => ⟨_, _, rfl, rfl, _, rfl, ?_⟩⟩
        by_cases hsp : 400 < spanTop L ds
        · exact iteY hsp ⟨_, rfl, rfl, fun d hd' => qT hN hCn hsp H5 d (sH5.trans s5) hd'⟩
        · exact iteN hsp (qY hN hCn (by omega) H5 (sH5.trans s5))
end
end K07
namespace K07
open PySem PySem.Spec PyProof.Rows L2
abbrev s_System_init : Stmt := inClass (top 48) 0
/-! ### a system is made -/
inductive SErr where
  | part (nm : Str) (i : Int)
  | unk (z : Str)
  | long (nm : Str)
def blkErr (ahead pol : Str → Bool) (L : Str → Int) (nm : Str) (ds : List PyData) : Option SErr := match badPlace (num 3 ds 0 0) with
  | some i => some (.part nm i)
  | none => match badCall ahead pol (partsW ds) with
    | some z => some (.unk z)
    | none => if 400 < spanTop L ds then some (.long nm) else none
def sysErr (pol : Str → Bool) (L : Str → Int) : List (Str × List PyData) → List Str → Option SErr
  | [], _ => none
  | s :: r, done => match blkErr (fun a => decide (a ∈ done)) pol L s.1 s.2 with
    | some e => some e
    | none => sysErr pol L r (done ++ [s.1])
def errC (CPt CU CT : Addr) : SErr → Addr
  | .part _ _ => CPt
  | .unk _ => CU
  | .long _ => CT
def errF : SErr → List (Str × V)
  | .part nm i => [("place", .int i), ("service", .str nm)]
  | .unk z => [("value", .str z)]
  | .long nm => [("service", .str nm)]
def dkOf (ns : List Str) (ws : List V) : List (Key × V) := (ns.map Sum.inr).zip ws
theorem hasK_dk (p : Str) : ∀ (ns : List Str) (ws : List V), ns.length = ws.length → hasK (dkOf ns ws) p = decide (p ∈ ns)
  | [], _, _ => rfl
  | m :: ns, w :: ws, h => by
    have ih := hasK_dk p ns ws (by simpa using h)
    unfold hasK at ih ⊢
    by_cases e : m = p
    · subst e
      rw [show dkOf (m :: ns) (w :: ws) = (Sum.inr m, w) :: dkOf ns ws from rfl, valV_pos rfl]
      simp
    · rw [show dkOf (m :: ns) (w :: ws) = (Sum.inr m, w) :: dkOf ns ws from rfl, valV_neg (by simpa using e), ih]
      simp [Ne.symm e]
theorem put_dk {ns : List Str} {ws : List V} {p : Str} {v : V} (h : ns.length = ws.length) (hn : p ∉ ns) : putK (dkOf ns ws) (Sum.inr p) v = dkOf (ns ++ [p]) (ws ++ [v]) := by
  have e := hasK_dk p ns ws h
  rw [decide_eq_false hn] at e
  have e2 : valV (dkOf ns ws) (Sum.inr p) = none := by
    unfold hasK at e
    cases z : valV (dkOf ns ws) (Sum.inr p) with
    | none => rfl
    | some u => rw [z] at e; cases e
  rw [putK_new v e2]
  unfold dkOf
  rw [List.map_append, List.zip_append (by rw [List.length_map]; exact h)]
  rfl
theorem len_dk {ns : List Str} {ws : List V} (h : ns.length = ws.length) : (dkOf ns ws).length = ns.length := by
  unfold dkOf
  rw [List.length_zip, List.length_map, h, Nat.min_self]
theorem PolsL.val {K : PySem.W.Frag} {C : Addr} {H : Hp} : ∀ {xs : List V} {rs : List (Str × List PyData)}, PolsL K C H xs rs → ∀ p, hasK (dkOf (rs.map Prod.fst) xs) p = true → ∃ w row, valV (dkOf (rs.map Prod.fst) xs) (Sum.inr p) = some w ∧ IsPol K C H w row ∧ (p, row) ∈ rs
  | _, _, .nil, p, h => by cases h
  | _, _, .cons (x := x) (xs := xs) (nm := nm) (row := row) (rs := rs) h t, p, hk => by
    by_cases e : nm = p
    · subst e
      exact ⟨x, _, valV_pos rfl, h, List.mem_cons_self⟩
    · have e2 : valV (dkOf (((nm, PyData.str nm :: row) :: rs).map Prod.fst) (x :: xs)) (Sum.inr p) = valV (dkOf (rs.map Prod.fst) xs) (Sum.inr p) := valV_neg (by simpa using e)
      unfold hasK at hk
      rw [e2] at hk
      obtain ⟨w, row', h1, h2, h3⟩ := PolsL.val t p hk
      exact ⟨w, row', by rw [e2]; exact h1, h2, List.mem_cons_of_mem _ h3⟩
theorem sql_ins {K : PySem.W.Frag} {H : Hp} {p C dx : Addr} {fs : List (Str × V)} {o : HO} {a : Addr} {xs : List V} (hp : H p = some (.ins C dx fs)) (h : SqL K H a xs) : SqL K (upd H p o) a xs := by
  rcases h with (h | ⟨ob, h⟩) | h
  · exact .inl (.inl (by rw [upd_ne (ne_of h hp (fun z => nomatch z))]; exact h))
  · exact .inl (.inr ⟨ob, by rw [upd_ne (ne_of h hp (fun z => nomatch z))]; exact h⟩)
  · exact .inr h
theorem sqt_ins {K : PySem.W.Frag} {H : Hp} {p C dx : Addr} {fs : List (Str × V)} {o : HO} {a : Addr} {xs : List V} (hp : H p = some (.ins C dx fs)) (h : SqT K H a xs) : SqT K (upd H p o) a xs := by
  rcases h with (h | ⟨ob, h⟩) | h
  · exact .inl (.inl (by rw [upd_ne (ne_of h hp (fun z => nomatch z))]; exact h))
  · exact .inl (.inr ⟨ob, by rw [upd_ne (ne_of h hp (fun z => nomatch z))]; exact h⟩)
  · exact .inr h
theorem pol_ins {K : PySem.W.Frag} {H : Hp} {p C CS dx : Addr} {o : HO} {v : V} {row : List PyData} (hp : H p = some (.ins CS dx [])) (h : IsPol K C H v row) : IsPol K C (upd H p o) v row := by
  obtain ⟨a, dx', vn, v0, v1, v2, v3, v4, v5, rfl, ha, hd⟩ := h
  have ne : a ≠ p := fun e => by
    rw [e, hp] at ha
    have z := Option.some.inj ha
    injection z with z1 z2 z3
    cases z3
  exact ⟨a, dx', vn, v0, v1, v2, v3, v4, v5, rfl, by rw [upd_ne ne]; exact ha, DqA.ins hp hd⟩
def spSysI (K : PySem.W.Frag) (CS C CPt CU CT : Addr) : Sp := fun vs H Q E => ∃ (p dx pa : Addr) (sv : V) (xs : List V) (rs srv : List (Str × List PyData)) (L : Str → Int), vs = [.ref p, .ref pa, sv] ∧ H p = some (.ins CS dx []) ∧ SqL K H pa xs ∧ PolsL K C H xs rs ∧ rs.length ≤ 8 ∧ (rs.map Prod.fst).Nodup ∧
  (∀ r ∈ rs, LongOk r.2 ∧ longD r.2 = L r.1) ∧ Dq K H sv (.list (srvD srv)) ∧ 1 ≤ srv.length ∧ srv.length ≤ 6 ∧ (srv.map Prod.fst).Nodup ∧ (∀ s ∈ srv, isName (.str s.1) = true ∧ Sm (.tuple s.2)) ∧
  (∀ e, sysErr (fun q => decide (q ∈ rs.map Prod.fst)) L srv [] = some e → ∀ H' d, (∀ b o, b ≠ p → H b = some o → H' b = some o) → H' d = none → E (.ref (errC CPt CU CT e)) (some d) (upd H' d (.xd (errF e)))) ∧
  (sysErr (fun q => decide (q ∈ rs.map Prod.fst)) L srv [] = none → ∀ H' dp db ws, (∀ b o, b ≠ p → H b = some o → H' b = some o) → H' p = some (.ins CS dx [("own_policies", .ref dp), ("own_blocks", .ref db)]) → H dp = none → H db = none → H' dp = some (.dK (dkOf (rs.map Prod.fst) xs)) → H' db = some (.dK (dkOf (srv.map Prod.fst) ws)) →
    srv.length = ws.length → DqA K H ws (srv.map fun s => .tuple s.2) → Q .non H')
structure SysC (K : PySem.W.Frag) (CS : Addr) : Prop where
  cl : Cls K CS
  nP : NoAttr K CS "own_policies"
  nB : NoAttr K CS "own_blocks"
section
variable {P : Program} {w : World} {K : PySem.W.Frag} {mg : Str → Option Value} {base : Heap} {f g : Addr} {fd gd : FuncData} {CX : CXT} {C CS : Addr}
theorem sc_System_init : FnScope ["self", "policies", "services", "name", "block", "one"] ["self", "policies", "services"] (defScope s_System_init) := ⟨rfl, rfl, rfl, by decide +kernel, rfl, by decide +kernel, by decide +kernel⟩
theorem ok_System_init {gP gS gB CPt CU CT : Addr} {eP eS eB : FuncData} (F : FnM K "__init__" "System.__init__" s_System_init f fd) (SC : SysC K CS) (GP : FnP K "check_policies" s_check_policies gP eP) (mP : mg "check_policies" = some (.ref gP)) (FP : FnOk P w K mg base CX0 3 gP eP ["policies"] (spCP K C))
    (GS : FnP K "check_services" s_check_services gS eS) (mS : mg "check_services" = some (.ref gS)) (FS : FnOk P w K mg base CX0 2 gS eS ["services"] (spCS K)) (GB : FnP K "check_block" s_check_block gB eB) (mB : mg "check_block" = some (.ref gB)) (FB : FnOk P w K mg base (L2.CX P w) 10 gB eB ["name", "block", "ahead", "policies"] (spCB K C CPt CU CT))
    (TC : PolC K C) {pa ga : Nat → Addr} {ge : Nat → FuncData} (G : Getters P w K mg base C pa ga ge) : FnOk P w K mg base (L2.CX P w) 11 f fd ["self", "policies", "services"] (spSysI K CS C CPt CU CT) := by
  have bP : Binds K eP ["policies"] [] := GP.bindsN fun _ _ _ _ _ _ us hl => match us, hl with | [_], _ => rfl
  have bS : Binds K eS ["services"] [] := GS.bindsN fun _ _ _ _ _ _ us hl => match us, hl with | [_], _ => rfl
  have bB : Binds K eB ["name", "block", "ahead", "policies"] [] := GB.bindsN fun _ _ _ _ _ _ us hl => match us, hl with | [_, _, _, _], _ => rfl
  refine F.ok sc_System_init (fun vs H Q E h => ?_) (fun cdv A outer s H vs Q E hr h => ?_)
  · obtain ⟨_, _, _, _, _, _, _, _, rfl, _⟩ := h
    rfl
  · obtain ⟨p, dx, pa', sv, xs, rs, srv, L, rfl, hp, hsq, hPl, hl8, hnd, hlong, hd, l1, l6, hsn, hsm, qE, qY⟩ := h
    have hu := hu_of hr
    have hr2 := hr.mono (by decide : 2 ≤ 10)
    have hr3 := hr.mono (by decide : 3 ≤ 10)
    refine ⟨_, (pss_cons (ps_expr (pe_call FP hr3 rfl mP GP.kp bP .nil pass0 (pa_cons (pv 1) pa_nil)))
      (pss_cons (ps_expr (pe_call FS hr2 rfl mS GS.kp bS .nil pass0 (pa_cons (pv 2) pa_nil)))
      (pss_cons (ps_fld (pv 0) (pe_dc (own := [("one", 5)]) (g := gName 5) (tt := tYes) rfl sc_System_init.nd (pi_list (pv 1)) (blkOk_by (N := ["self", "policies", "services", "name", "block", "one"]) (sc := defScope s_System_init) (by decide +kernel))
          (fun _ _ _ _ _ => pg_name (i := 5) sc_System_init.nd rfl (Or.inl rfl)) (fun _ _ _ _ _ => pts_nil) (fun _ _ _ _ _ => by exact pe_prop (pv 5) TC.cl G.p_name G.f_name hr2 G.b_name .nil pass0 rfl) (fun _ _ _ _ _ => pv 5)) rfl)
      (pss_cons (ps_fld (pv 0) pe_dnewK rfl)
      (pss_one (ps_for (passes_of rfl) rfl (pi_list (pv 2)) (pg_tup rfl (pgs_cons (pg_name (i := 3) sc_System_init.nd rfl (Or.inl rfl)) (pgs_cons (pg_name (i := 4) sc_System_init.nd rfl (Or.inl rfl)) pgs_nil)))
        (pss_cons (ps_expr (pe_call FB hr rfl mB GB.kp bB .nil (passes_call (takes_of rfl rfl rfl rfl) (fun _ _ _ _ h => h)) (pa_cons (pv 3) (pa_cons (pv 4) (pa_cons (pe_fld (pv 0) rfl) (pa_cons (pe_fld (pv 0) rfl) pa_nil))))))
        (pss_one (ps_dput hu (pe_fld (pv 0) rfl) (pv 3) (pv 4) rfl))))))))), ?_⟩
    refine ⟨_, rfl, pa', xs, rs, rfl, hsq, hPl, hl8, hnd, fun H1 s1 => ?_⟩
    refine ⟨_, rfl, sv, srv, rfl, hd.up s1, l1, l6, hsn, (fun s h => (hsm s h).1), fun H2 s2 => ?_⟩
    have s12 := s1.trans s2
    have hsq2 := s12.seq hsq
    have hPl2 := hPl.up s12
    have elx := hPl.len
    refine ⟨_, rfl, pa', rfl, ⟨_, hsq2⟩, fun dp hdp => dc_it walk_list (fun i H' => Same H2 H' ∧ H' dp = some (.dK (dkOf ((rs.take i).map Prod.fst) (xs.take i)))) ⟨Same.new' hdp, upd_same⟩ (fun i H' _ hP => hP.1.seq hsq2) ?_ (fun H3 hP => ?_)⟩
    · rintro i x H' H'' hi ⟨sH, hH⟩ ⟨rfl, hx⟩
      obtain ⟨nm, row, hri, hpol⟩ := hPl2.at hx
      have hp3 := hpol.up sH
      obtain ⟨pp, pdx, vn, v0, v1, v2, v3, v4, v5, rfl, hpa, hpd⟩ := id hp3
      obtain ⟨_, _, _, _, _, _, _, ee, hvn, _⟩ := dqA7 hpd
      cases ee
      cases hvn
      have hlt : i < rs.length := by rw [← elx]; exact hi
      have ll : ((rs.take i).map Prod.fst).length = (xs.take i).length := by rw [List.length_map, List.length_take, List.length_take, elx]
      refine ⟨rfl, ?_⟩
      refine ⟨_, rfl, pp, pdx, _, rfl, hpa, pp, pdx, _, .str nm, rfl, hpa, rfl, _, rfl, _, Sum.inr nm, rfl, hH, ?_, sH.mut hdp, ?_⟩
      · rw [len_dk ll, List.length_map, List.length_take]
        exact Nat.lt_of_le_of_lt (Nat.min_le_right _ _) (Nat.lt_of_le_of_lt hl8 (by decide))
      · rw [upd_same, put_dk ll (not_before hnd hri), ← take_fst hri, take_snoc hx]
    · obtain ⟨s3, h3⟩ := hP
      rw [elx, List.take_length, ← elx, List.take_length] at h3
      have hdpH : H dp = none := s12.free hdp
      have s13 := s12.trans s3
      have hp3 := s13 _ _ hp
      have dpp : dp ≠ p := ne_of h3 hp3 (fun z => nomatch z)
      refine ⟨_, rfl, p, CS, dx, _, rfl, hp3, SC.cl, SC.nP, (by decide), ?_⟩
      have hA1 : upd H3 p (.ins CS dx (putF "own_policies" (.ref dp) [])) p = some (.ins CS dx [("own_policies", .ref dp)]) := upd_same
      have kA : ∀ b o, b ≠ p → H3 b = some o → upd H3 p (.ins CS dx (putF "own_policies" (.ref dp) [])) b = some o := fun b o hb e => by rw [upd_ne hb]; exact e
      generalize upd H3 p (.ins CS dx (putF "own_policies" (.ref dp) [])) = HA at hA1 kA ⊢
      intro db hdb
      have dbp : db ≠ p := fun e => by rw [e, hA1] at hdb; cases hdb
      have hA2 : upd HA db (.dK []) p = some (.ins CS dx [("own_policies", .ref dp)]) := by rw [upd_ne (Ne.symm dbp)]; exact hA1
      refine ⟨_, rfl, p, CS, dx, _, rfl, hA2, SC.cl, SC.nB, (by show 1 < 1000; decide), ?_⟩
      have hB1 : upd (upd HA db (.dK [])) p (.ins CS dx (putF "own_blocks" (.ref db) [("own_policies", .ref dp)])) p = some (.ins CS dx [("own_policies", .ref dp), ("own_blocks", .ref db)]) := upd_same
      have dpb : dp ≠ db := ne_of_none (kA _ _ dpp h3) hdb
      have hB2 : upd (upd HA db (.dK [])) p (.ins CS dx (putF "own_blocks" (.ref db) [("own_policies", .ref dp)])) dp = some (.dK (dkOf (rs.map Prod.fst) xs)) := by rw [upd_ne dpp, upd_ne dpb]; exact kA _ _ dpp h3
      have hB3 : upd (upd HA db (.dK [])) p (.ins CS dx (putF "own_blocks" (.ref db) [("own_policies", .ref dp)])) db = some (.dK []) := by rw [upd_ne dbp]; exact upd_same
      have kB : ∀ b o, b ≠ p → H b = some o → upd (upd HA db (.dK [])) p (.ins CS dx (putF "own_blocks" (.ref db) [("own_policies", .ref dp)])) b = some o := fun b o hb e => by
        have e3 := kA b o hb (s13 b o e)
        rw [upd_ne hb, upd_ne (ne_of_none e3 hdb)]
        exact e3
      have hdbH : H db = none := by
        cases e : H db with
        | none => rfl
        | some o => rw [kA _ _ dbp (s13 _ _ e)] at hdb; cases hdb
      generalize upd (upd HA db (.dK [])) p (.ins CS dx (putF "own_blocks" (.ref db) [("own_policies", .ref dp)])) = HB at hB1 hB2 hB3 kB ⊢
      have up : ∀ {H' : Hp}, (∀ b o, b ≠ p → H b = some o → H' b = some o) → (∃ fs, H' p = some (.ins CS dx fs)) → ∃ o, Same (upd H p o) H' := fun {H'} k hp' => by
        obtain ⟨fs, hp'⟩ := hp'
        refine ⟨.ins CS dx fs, fun b u e => ?_⟩
        by_cases z : b = p
        · rw [z, upd_same] at e
          cases e
          rw [z]
          exact hp'
        · rw [upd_ne z] at e
          exact k b u z e
      have polEqF : (fun q => decide (q ∈ rs.map Prod.fst)) = hasK (dkOf (rs.map Prod.fst) xs) := funext fun q => (hasK_dk q _ _ (by rw [List.length_map, elx])).symm
      cases hd with
      | @lst sa ss _ hss hsa =>
        have els : ss.length = srv.length := by rw [hsa.len]; exact List.length_map _
        have atS : ∀ {H' : Hp}, (∀ b o, b ≠ p → H b = some o → H' b = some o) → (∃ fs, H' p = some (.ins CS dx fs)) → SqL K H' sa ss := fun {H'} k hp' => by
          obtain ⟨o, so⟩ := up k hp'
          exact so.seq (sql_ins hp hss)
        refine ⟨_, rfl, sa, rfl, ⟨_, atS kB ⟨_, hB1⟩⟩, ?_⟩
        refine for_list (xs := ss) (fun i σ H' => ∃ ws o3 o4 o5, σ = [some (.ref p), some (.ref pa'), some (.ref sa), o3, o4, o5] ∧ (∀ b o, b ≠ p → H b = some o → H' b = some o) ∧ H' p = some (.ins CS dx [("own_policies", .ref dp), ("own_blocks", .ref db)]) ∧ H' dp = some (.dK (dkOf (rs.map Prod.fst) xs)) ∧
            H' db = some (.dK (dkOf ((srv.take i).map Prod.fst) ws)) ∧ (srv.take i).length = ws.length ∧ DqA K H ws ((srv.take i).map fun s => .tuple s.2) ∧ sysErr (fun q => decide (q ∈ rs.map Prod.fst)) L srv [] = sysErr (fun q => decide (q ∈ rs.map Prod.fst)) L (srv.drop i) ((srv.take i).map Prod.fst))
          ⟨[], _, _, _, rfl, kB, hB1, hB2, hB3, rfl, .nil, rfl⟩ (fun i σ H' _ hP => by obtain ⟨_, _, _, _, _, k, hp', _⟩ := hP; exact atS k ⟨_, hp'⟩) (fun i x σ H' hx hP => ?_) (fun σ H' hP => ?_)
        · obtain ⟨ws, o3, o4, o5, rfl, kH, hp', hdp', hdb', hwl, hws, hE⟩ := hP
          obtain ⟨d, hdi, hxd⟩ := hsa.at hx
          unfold srvD at hdi
          rw [List.getElem?_map] at hdi
          obtain ⟨sv', hsi, rfl⟩ : ∃ sv', srv[i]? = some sv' ∧ PyData.tuple [.str sv'.1, .tuple sv'.2] = d := by
            cases e : srv[i]? with
            | none => rw [e] at hdi; cases hdi
            | some sv' => rw [e] at hdi; exact ⟨sv', rfl, Option.some.inj hdi⟩
          have hil : i < srv.length := (List.getElem?_eq_some_iff.mp hsi).1
          have edr : srv.drop i = sv' :: srv.drop (i + 1) := by
            rw [List.drop_eq_getElem_cons hil]
            have := (List.getElem?_eq_some_iff.mp hsi).2
            rw [this]
          rw [edr, sysErr] at hE
          obtain ⟨nmI, smI⟩ := hsm sv' (List.mem_of_getElem? hsi)
          cases hxd with
          | @tup T tl _ hT hTa =>
            cases hTa with
            | @cons t0 tl _ _ k0 kr =>
              cases kr with
              | @cons bv tl _ _ k1 kr =>
                cases kr
                cases k0
                obtain ⟨oo, so⟩ := up kH ⟨_, hp'⟩
                have hT' : SqT K H' T [.str sv'.1, bv] := SqT.upT so (sqt_ins hp hT)
                have k1' := (Dq.ins (o := oo) hp k1).up so
                have wl2 : ((srv.take i).map Prod.fst).length = ws.length := by rw [List.length_map]; exact hwl
                have ahEq : (fun a => decide (a ∈ (srv.take i).map Prod.fst)) = hasK (dkOf ((srv.take i).map Prod.fst) ws) := funext fun q => (hasK_dk q _ _ wl2).symm
                refine ⟨T, _, rfl, hT', rfl, _, _, rfl, _, _, rfl, rfl, ?_⟩
                refine ⟨_, rfl, _, rfl, _, rfl, p, CS, dx, _, _, rfl, hp', SC.cl, SC.nB, rfl, _, rfl, p, CS, dx, _, _, rfl, hp', SC.cl, SC.nP, rfl, sv'.1, bv, db, dp, sv'.2, _, _, L, rfl, k1', smI, hdb', hdp', ⟨_, hdp', fun q hq => ?_⟩, fun j hj H'' d s'' hd'' => ?_, fun hj z hz H'' d s'' hd'' => ?_, fun hj hz hsp H'' d s'' hd'' => ?_, fun hj hz hsp H'' s'' => ?_⟩
                · obtain ⟨wv, row, e1, e2, e3⟩ := hPl.val q hq
                  obtain ⟨l3, l4⟩ := hlong _ e3
                  exact ⟨wv, row, e1, (pol_ins (o := oo) hp e2).up so, l3, l4⟩
                · have he : blkErr (fun a => decide (a ∈ (srv.take i).map Prod.fst)) (fun q => decide (q ∈ rs.map Prod.fst)) L sv'.1 sv'.2 = some (.part sv'.1 j) := by
                    unfold blkErr
                    rw [hj]
                  rw [he] at hE
                  exact qE _ hE H'' d (fun b o hb e => s'' b o (kH b o hb e)) hd''
                · have he : blkErr (fun a => decide (a ∈ (srv.take i).map Prod.fst)) (fun q => decide (q ∈ rs.map Prod.fst)) L sv'.1 sv'.2 = some (.unk z) := by
                    unfold blkErr
                    rw [hj, ahEq, polEqF, hz]
                  rw [he] at hE
                  exact qE _ hE H'' d (fun b o hb e => s'' b o (kH b o hb e)) hd''
                · have he : blkErr (fun a => decide (a ∈ (srv.take i).map Prod.fst)) (fun q => decide (q ∈ rs.map Prod.fst)) L sv'.1 sv'.2 = some (.long sv'.1) := by
                    unfold blkErr
                    rw [hj, ahEq, polEqF, hz]
                    exact if_pos hsp
                  rw [he] at hE
                  exact qE _ hE H'' d (fun b o hb e => s'' b o (kH b o hb e)) hd''
                · have he : blkErr (fun a => decide (a ∈ (srv.take i).map Prod.fst)) (fun q => decide (q ∈ rs.map Prod.fst)) L sv'.1 sv'.2 = none := by
                    unfold blkErr
                    rw [hj, ahEq, polEqF, hz]
                    exact if_neg (by omega)
                  rw [he] at hE
                  have nb := not_before (r := sv'.2) hsn hsi
                  have dl : (dkOf ((srv.take i).map Prod.fst) ws).length < sizeLine := by
                    rw [len_dk wl2, List.length_map, List.length_take]
                    exact Nat.lt_of_le_of_lt (Nat.min_le_right _ _) (Nat.lt_of_le_of_lt l6 (by decide))
                  refine ⟨_, rfl, _, rfl, p, CS, dx, _, _, rfl, s'' _ _ hp', SC.cl, SC.nB, rfl, _, rfl, db, _, rfl, DPut.k (k := Sum.inr sv'.1) (s'' _ _ hdb') dl, ?_⟩
                  refine ⟨ws ++ [bv], _, _, _, rfl, fun b o hb e => ?_, ?_, ?_, ?_, ?_, ?_, ?_⟩
                  · rw [upd_ne (ne_of_none e hdbH)]
                    exact s'' b o (kH b o hb e)
                  · rw [upd_ne (Ne.symm dbp)]
                    exact s'' _ _ hp'
                  · rw [upd_ne dpb]
                    exact s'' _ _ hdp'
                  · rw [upd_same, put_dk wl2 nb, ← take_fst (nm := sv'.1) (r := sv'.2) hsi]
                  · rw [List.length_append, ← hwl, List.length_take, List.length_take]
                    show min (i + 1) srv.length = min i srv.length + 1
                    omega
                  · rw [← take_snoc hsi, List.map_append]
                    exact DqA.app hws (.cons k1 .nil)
                  · rw [hE, take_fst (nm := sv'.1) (r := sv'.2) hsi]
        · obtain ⟨ws, o3, o4, o5, rfl, kH, hp', hdp', hdb', hwl, hws, hE⟩ := hP
          rw [els, List.take_length] at hdb' hwl hws
          rw [els, List.drop_length] at hE
          exact qY hE H' dp db ws kH hp' hdpH hdbH hdp' hdb' hwl hws
end
end K07
namespace K07
open PySem PySem.Spec PyProof.Rows L2
abbrev s_law_told : Stmt := top 52
/-! ### what making a system of one policy and two services tells -/
def toldE : Option SErr → PyData
  | none => .str "made"
  | some (.part nm i) => .list [.str nm, .int i]
  | some (.unk z) => .str z
  | some (.long _) => .none
def errB (ds : List PyData) : Option SErr := sysErr (fun q => decide (q ∈ (["p"] : List Str))) (fun _ => 2) [("a", []), ("b", ds)] []
def spTold (K : PySem.W.Frag) : Sp := fun vs H Q _ => ∃ (v : V) (ds : List PyData), vs = [v] ∧ Dq K H v (.tuple ds) ∧ Sm (.tuple ds) ∧ (∀ nm, errB ds ≠ some (.long nm)) ∧ (∀ z, errB ds = some (.unk z) → z.length ≤ sizeLine) ∧ ∀ u H', Same H H' → Dq K H' u (toldE (errB ds)) → Q u H'
theorem errB_eq (ds : List PyData) : errB ds = blkErr (fun a => decide (a ∈ (["a"] : List Str))) (fun q => decide (q ∈ (["p"] : List Str))) (fun _ => 2) "b" ds := by
  have h0 : blkErr (fun a => decide (a ∈ ([] : List Str))) (fun q => decide (q ∈ (["p"] : List Str))) (fun _ => 2) "a" [] = none := by decide +kernel
  unfold errB
  rw [sysErr]
  show (match blkErr (fun a => decide (a ∈ ([] : List Str))) (fun q => decide (q ∈ (["p"] : List Str))) (fun _ => 2) "a" [] with
    | some e => some e
    | none => sysErr (fun q => decide (q ∈ (["p"] : List Str))) (fun _ => 2) [("b", ds)] ["a"]) = _
  rw [h0, sysErr]
  cases blkErr (fun a => decide (a ∈ (["a"] : List Str))) (fun q => decide (q ∈ (["p"] : List Str))) (fun _ => 2) "b" ds <;> rfl
theorem errB_nm {ds : List PyData} {nm : Str} {i : Int} (h : errB ds = some (.part nm i)) : nm = "b" := by
  rw [errB_eq] at h
  unfold blkErr at h
  split at h
  · cases h; rfl
  · split at h
    · cases h
    · split at h <;> cases h
theorem kb_of {K : PySem.W.Frag} {fd : FuncData} {ps : List Str} {n : Nat} (h : Binds K fd ps []) (hn : ps.length = n) : KBn K fd ps n [] (fun us _ => us) (fun vs _ => vs) where
  to s us ws hk hl _ := by
    have z := h s us hk (by rw [List.append_nil, hl, hn])
    rw [List.append_nil] at z
    exact z
  rel r _ := r
section
variable {P : Program} {w : World} {K : PySem.W.Frag} {mg : Str → Option Value} {base : Heap} {f g : Addr} {fd gd : FuncData} {CX : CXT}
/-- a new policy, the seven values behind it -/
theorem madeP {C CN CP : Addr} {H : Hp} {Q : VK} {x dx : Addr} {vn v0 v1 v2 v3 v4 v5 : V} {dn d0 d1 d2 d3 d4 d5 dp : PyData} (hx : H x = none) (hdx : H dx = none) (hn : Dq K H vn dn) (h0 : Dq K H v0 d0) (h1 : Dq K H v1 d1) (h2 : Dq K H v2 d2) (h3 : Dq K H v3 d3) (h4 : Dq K H v4 d4) (h5 : Dq K H v5 d5)
    (en : isName dn = true) (ew : wrongField d0 d1 d2 d3 d4 d5 = none) (ep : ownPauses (intOf d1) d2 d3 = dp) (q : ∀ H', Same H H' → IsPol K C H' (.ref x) [dn, d0, d1, dp, d3, d4, d5] → Q .non H') :
    spPolI K C CN CP [.ref x, vn, v0, v1, v2, v3, v4, v5] (upd (upd H dx (.own x)) x (.ins C dx [])) Q E0 := by
  have s1 : Same H (upd (upd H dx (.own x)) x (.ins C dx [])) := fun b o e => by
    rw [upd_ne (ne_of_none e hx), upd_ne (ne_of_none e hdx)]
    exact e
  refine ⟨x, dx, vn, v0, v1, v2, v3, v4, v5, dn, d0, d1, d2, d3, d4, d5, rfl, upd_same, hn.up s1, h0.up s1, h1.up s1, h2.up s1, h3.up s1, h4.up s1, h5.up s1, fun z => ?_, fun _ wf z => ?_, fun _ _ H' vp k hvp hp => ?_⟩
  · rw [en] at z; cases z
  · rw [ew] at z; cases z
  · have s2 : Same H H' := fun b o e => k b o (ne_of_none e hx) (s1 b o e)
    rw [ep] at hvp
    exact q H' s2 ⟨x, dx, vn, v0, v1, vp, v3, v4, v5, rfl, hp, .cons (hn.up s2) (.cons (h0.up s2) (.cons (h1.up s2) (.cons hvp (.cons (h3.up s2) (.cons (h4.up s2) (.cons (h5.up s2) .nil))))))⟩
theorem sc_law_told : FnScope ["_law_block", "e"] ["_law_block"] (defScope s_law_told) := ⟨rfl, rfl, rfl, by decide +kernel, rfl, by decide +kernel, by decide +kernel⟩
theorem sm_nil : Sm (.tuple []) := ⟨by decide +kernel, by decide +kernel, by decide +kernel, by decide +kernel⟩
theorem ok_law_told (F : FnP K "_law_told" s_law_told f fd) {fI fS C CS CN CP CPt fPt CU fU CT ea : Addr} {eI eS : FuncData} (GI : FnPol K fI eI (kwsP ea)) (hE : ∀ H, SqT K H ea [.str "go"]) (MI : Mk K C fI) (mP : mg "Policy" = some (.ref C))
    (FI : FnOk P w K mg base (L2.CX P w) 5 fI eI psPol (spPolI K C CN CP)) (GS : FnM K "__init__" "System.__init__" s_System_init fS eS) (MS : Mk K CS fS) (mS : mg "System" = some (.ref CS))
    (FS : FnOk P w K mg base (L2.CX P w) 11 fS eS ["self", "policies", "services"] (spSysI K CS C CPt CU CT)) {B1 n1 i1 B2 n2 i2 : String} {m1 m2 : List Value}
    (TPt : ETx P K mg "InvalidPart" CPt fPt B1 n1 i1 m1) (KPt : PySem.MEX.EFn2 P K CPt fPt "service" "place") (TU : ETx P K mg "UnknownName" CU fU B2 n2 i2 m2) (KU : PySem.MEX.EFn1 P K CU fU "value")
    (hPU : PySem.W.exmOne K (.ref CU) (.ref CPt) = some false) : FnOk P w K mg base CX0 13 f fd ["_law_block"] (spTold K) := by
  obtain ⟨mv, kb⟩ := kb0 GI
  have bS : Binds K eS ["self", "policies", "services"] [] := GS.bindsN fun _ _ _ _ _ _ us hl => match us, hl with | [_, _, _], _ => rfl
  have kS := kb_of bS (n := 3) rfl
  refine F.ok sc_law_told (fun vs H Q E h => ?_) (fun cdv A outer s H vs Q E hr h => ?_)
  · obtain ⟨_, _, rfl, _⟩ := h
    rfl
  · obtain ⟨v, ds, rfl, hv, hsm, hnl, hzl, q⟩ := h
    have hu := hu_of hr
    have hr6 := hr.mono (by decide : 6 ≤ 12)
    refine ⟨_, pss_one (ps_try_manyA (tb := fun W => tSeq (tDrop (tMakeKS CS 2 ([] : List Str).length (spSysI K CS C CPt CU CT) (fun vs _ => vs) (WE W) (tCons (tLst (tCons (tMakeK C 2 ([] : List Str).length (spPolI K C CN CP) (fun vs zs => vs ++ [.int 1, .non, .non, .bl false, .ref ea]) E0 (tCons (tC (.str "p")) (tCons (tC (.int 2)) tNil)) tNil) tNil)) (tCons (tLst (tCons (tTup (tCons (tC (.str "a")) (tCons (tTup tNil) tNil))) (tCons (tTup (tCons (tC (.str "b")) (tCons (tVar 0) tNil))) tNil))) tNil)) tNil)) (tRet (tC (.str "made")))) rfl rfl sc_law_told.nd takes0
      (fun W pn xe tk _ => pss_cons (ps_expr (by exact pe_makeKS (E := WE W) MS FS hr rfl mS kS (fun σ => passAt tk σ) (pa_cons (pe_lst (pa_cons (by exact pe_makeK (E := E0) MI FI hr6 rfl mP kb passL (pa_cons pe_str (pa_cons pe_int pa_nil)) pk_nil) pa_nil)) (pa_cons (pe_lst (pa_cons (pe_tup (pa_cons pe_str (pa_cons (pe_tup pa_nil) pa_nil))) (pa_cons (pe_tup (pa_cons pe_str (pa_cons (pv 0) pa_nil))) pa_nil))) pa_nil)) pk_nil)) (pss_one (ps_ret pe_str)))
      (.cons (i := 1) ⟨rfl, by decide, .inl TPt.c.gC⟩ rfl rfl (fun a oe cls d pn hz hf => pss_one (ps_ret (pe_lst (pa_cons (pe_xf TPt.xf KPt.no1 hz hf (pv 1)) (pa_cons (pe_xf TPt.xf KPt.no2 hz hf (pv 1)) pa_nil)))))
        (.cons (i := 1) ⟨rfl, by decide, .inl TU.c.gC⟩ rfl rfl (fun a oe cls d pn hz hf => pss_one (ps_ret (pe_xf TU.xf KU.no1 hz hf (pv 1)))) .nil))), ?_⟩
    refine ⟨rfl, rfl, fun x dx hx hdx _ => madeP (dp := .tuple []) hx hdx (.str "p" (by decide)) (.int 2) (.int 1) .non .non (.bl false) (.tup (hE _) (.cons (.str "go" (by decide)) .nil)) (by decide +kernel) (by decide +kernel) rfl (fun H1 s1 hp1 => ⟨rfl, ?_⟩)⟩
    refine ⟨(by show 1 ≤ sizeLine; decide), fun l1 hl1 => ⟨(by show 0 ≤ sizeLine; decide), fun t0 ht0 => ⟨(by show 2 ≤ sizeLine; decide), fun t1 ht1 => ⟨_, rfl, (by show 2 ≤ sizeLine; decide), fun t2 ht2 => ⟨(by show 2 ≤ sizeLine; decide), fun l2 hl2 => ⟨rfl, rfl, fun y dy hy hdy hne => ?_⟩⟩⟩⟩⟩⟩
    have hl1' : upd H1 l1 (.lst [.ref x]) l1 = some (.lst [.ref x]) := upd_same
    have a1 : Same H1 (upd H1 l1 (.lst [.ref x])) := Same.new' hl1
    generalize upd H1 l1 (.lst [.ref x]) = G1 at hl1' a1 ht0 ht1 ht2 hl2 hy hdy ⊢
    have ht0' : upd G1 t0 (.tup []) t0 = some (.tup []) := upd_same
    have a2 : Same G1 (upd G1 t0 (.tup [])) := Same.new' ht0
    generalize upd G1 t0 (.tup []) = G2 at ht0' a2 ht1 ht2 hl2 hy hdy ⊢
    have ht1' : upd G2 t1 (.tup [.str "a", .ref t0]) t1 = some (.tup [.str "a", .ref t0]) := upd_same
    have a3 : Same G2 (upd G2 t1 (.tup [.str "a", .ref t0])) := Same.new' ht1
    generalize upd G2 t1 (.tup [.str "a", .ref t0]) = G3 at ht1' a3 ht2 hl2 hy hdy ⊢
    have ht2' : upd G3 t2 (.tup [.str "b", v]) t2 = some (.tup [.str "b", v]) := upd_same
    have a4 : Same G3 (upd G3 t2 (.tup [.str "b", v])) := Same.new' ht2
    generalize upd G3 t2 (.tup [.str "b", v]) = G4 at ht2' a4 hl2 hy hdy ⊢
    have hl2' : upd G4 l2 (.lst [.ref t1, .ref t2]) l2 = some (.lst [.ref t1, .ref t2]) := upd_same
    have a5 : Same G4 (upd G4 l2 (.lst [.ref t1, .ref t2])) := Same.new' hl2
    generalize upd G4 l2 (.lst [.ref t1, .ref t2]) = G5 at hl2' a5 hy hdy ⊢
    have hy' : upd (upd G5 dy (.own y)) y (.ins CS dy []) y = some (.ins CS dy []) := upd_same
    have a6 : Same G5 (upd (upd G5 dy (.own y)) y (.ins CS dy [])) := fun b o e => by
      rw [upd_ne (ne_of_none e hy), upd_ne (ne_of_none e hdy)]
      exact e
    generalize upd (upd G5 dy (.own y)) y (.ins CS dy []) = G6 at hy' a6 ⊢
    have sH5 : Same H G5 := s1.trans (a1.trans (a2.trans (a3.trans (a4.trans a5))))
    have sT : Same G5 G6 := a6
    have hd0 : Dq K G2 (.ref t0) (.tuple []) := .tup (SqT.of ht0') .nil
    have hd1 : Dq K G3 (.ref t1) (.tuple [.str "a", .tuple []]) := .tup (SqT.of ht1') (.cons (.str "a" (by decide)) (.cons (hd0.up a3) .nil))
    have hd2 : Dq K G4 (.ref t2) (.tuple [.str "b", .tuple ds]) := .tup (SqT.of ht2') (.cons (.str "b" (by decide)) (.cons (hv.up (s1.trans (a1.trans (a2.trans (a3.trans a4))))) .nil))
    have hd3 : Dq K G5 (.ref l2) (.list (srvD [("a", []), ("b", ds)])) := .lst (SqL.of hl2') (.cons (hd1.up (a4.trans a5)) (.cons (hd2.up a5) .nil))
    have old : ∀ {H' : Hp}, (∀ b o, b ≠ y → G6 b = some o → H' b = some o) → Same H H' := fun k b o e => k b o (ne_of_none (sH5 b o e) hy) (a6 b o (sH5 b o e))
    refine ⟨y, dy, l1, .ref l2, [.ref x], [("p", [.str "p", .int 2, .int 1, .tuple [], .none, .bool false, .tuple [.str "go"]])], [("a", []), ("b", ds)], fun _ => 2, rfl, hy', SqL.of (a6 _ _ (a5 _ _ (a4 _ _ (a3 _ _ (a2 _ _ hl1'))))), .cons (hp1.up (a1.trans (a2.trans (a3.trans (a4.trans (a5.trans a6)))))) .nil, by decide, List.Pairwise.cons (fun _ h => by cases h) .nil, fun r hr => ?_, hd3.up a6, (by show 1 ≤ 2; decide), (by show 2 ≤ 6; decide), ?_, fun s hs => ?_, fun e he H' d k hd => ?_, fun he H' dp db ws k hp' h1 h2 h3 h4 hl hw => ⟨rfl, ?_⟩⟩
    · cases List.mem_singleton.mp hr
      exact ⟨⟨.str "p", 2, 1, [], .none, .bool false, .tuple [.str "go"], rfl, by decide, by decide, by decide, by decide, .inl rfl⟩, rfl⟩
    · exact List.Pairwise.cons (fun _ h => by cases List.mem_singleton.mp h; show ("a" : Str) ≠ "b"; decide) (List.Pairwise.cons (fun _ h => by cases h) .nil)
    · rcases List.mem_cons.mp hs with rfl | hs
      · exact ⟨by decide +kernel, sm_nil⟩
      · cases List.mem_singleton.mp hs
        exact ⟨(by show isName (.str "b") = true; decide +kernel), hsm⟩
    · have he' : errB ds = some e := he
      have s3 := (old k).trans (Same.new (o := .xd (errF e)) hd)
      cases e with
      | part nm i =>
        refine ⟨true, TPt.te, fun _ a ha => ?_, fun z => nomatch z⟩
        refine ⟨_, rfl, rfl, rfl, d, _, .str nm, rfl, upd_same, rfl, _, rfl, rfl, rfl, d, _, .int i, rfl, upd_same, rfl, (by show 2 ≤ sizeLine; decide), fun z hz => ?_⟩
        refine q _ _ (s3.trans (Same.new' hz)) ?_
        rw [he']
        have hnm : nm.length ≤ sizeLine := by
          rw [errB_nm he']
          decide
        exact .lst (SqL.of upd_same) (.cons (.str nm hnm) (.cons (.int i) .nil))
      | unk z =>
        refine ⟨false, hPU, (fun z => nomatch z), fun _ => ⟨true, TU.te, fun _ a ha => ?_, fun z => nomatch z⟩⟩
        refine ⟨_, rfl, rfl, rfl, d, _, .str z, rfl, upd_same, rfl, ?_⟩
        refine q _ _ s3 ?_
        rw [he']
        exact .str z (hzl z he')
      | long nm => exact absurd he' (hnl nm)
    · have he' : errB ds = none := he
      refine q _ _ (old k) ?_
      rw [he']
      exact .str "made" (by decide)
end
end K07
namespace K07
open PySem PySem.Spec PyProof.Rows L2
/-! ### trees of parts, and what the law counts in them -/
def leaves : List PyData := [.tuple [.str "run", .int 0, .int 20], .tuple [.str "risk"], .tuple [.str "want", .str "a", .str "p"], .tuple [.str "run", .int 3, .int 3]]
def Zb (z : Str) (bs : List (List PyData)) : Prop := (z = "maybe" ∧ bs.length = 1) ∨ (z = "both" ∧ bs.length = 2)
def Tr (S : List PyData) : Nat → PyData → Prop
  | 0, d => d ∈ S
  | n + 1, d => d ∈ S ∨ ∃ z bs, Zb z bs ∧ d = .tuple (.str z :: bs.map PyData.tuple) ∧ ∀ b ∈ bs, b.length ≤ 2 ∧ ∀ x ∈ b, Tr S n x
theorem Tr.leaf {S : List PyData} {d : PyData} (h : d ∈ S) : ∀ n, Tr S n d
  | 0 => h
  | _ + 1 => .inl h
def bbW (d : PyData) : Bool := match d with
  | .tuple (.str z :: _) => decide (z = "maybe" ∨ z = "both")
  | _ => false
def firI (g : List PyData → Int → Option Int × Int) : List PyData → Int → Option Int × Int
  | [], k => (none, k)
  | b :: bs, k => if (g (elems b) k).1.isSome then g (elems b) k else firI g bs (g (elems b) k).2
def firL (g : List PyData → Int → Option Int × Int) (at_ dep : Int) : List PyData → Int → Option Int × Int
  | [], k => (none, k)
  | d :: ds, k => if k = at_ ∨ k = 12 ∨ (bbW d = true ∧ dep = 2) then (some k, k + 1) else if (firI g (innerW d) (k + 1)).1.isSome then firI g (innerW d) (k + 1) else firL g at_ dep ds (firI g (innerW d) (k + 1)).2
def fir : Nat → Int → List PyData → Int → Int → Option Int × Int
  | 0, _, _, _, k => (none, k)
  | n + 1, at_, ds, dep, k => firL (fun xs j => fir n at_ xs (dep + 1) j) at_ dep ds k
def benI (g : List PyData → Int → List PyData × Int) : List PyData → Int → List PyData × Int
  | [], k => ([], k)
  | b :: bs, k => (.tuple (g (elems b) k).1 :: (benI g bs (g (elems b) k).2).1, (benI g bs (g (elems b) k).2).2)
def hdW (d : PyData) : PyData := (elems d).getD 0 .none
def benL (g : List PyData → Int → List PyData × Int) (at_ : Int) (odd : PyData) : List PyData → Int → List PyData × Int
  | [], k => ([], k)
  | d :: ds, k => ((if k = at_ then odd else if innerW d = [] then d else .tuple (hdW d :: (benI g (innerW d) (k + 1)).1)) :: (benL g at_ odd ds (benI g (innerW d) (k + 1)).2).1, (benL g at_ odd ds (benI g (innerW d) (k + 1)).2).2)
def ben : Nat → Int → PyData → List PyData → Int → List PyData × Int
  | 0, _, _, _, k => ([], k)
  | n + 1, at_, odd, ds, k => benL (fun xs j => ben n at_ odd xs j) at_ odd ds k
def man : Nat → List PyData → Int
  | 0, _ => 0
  | n + 1, ds => (ds.map fun d => 1 + ((innerW d).map fun b => man n (elems b)).sum).sum
def scaL (g : List PyData → Int → Option Int × Int) (dep : Int) : List PyData → Int → Option Int × Int
  | [], k => (none, k)
  | d :: ds, k => if 12 ≤ k ∨ isPart d dep = false then (some k, k + 1) else if (firI g (innerW d) (k + 1)).1.isSome then firI g (innerW d) (k + 1) else scaL g dep ds (firI g (innerW d) (k + 1)).2
def sca : Nat → List PyData → Int → Int → Option Int × Int
  | 0, _, _, k => (none, k)
  | n + 1, ds, dep, k => scaL (fun xs j => sca n xs (dep + 1) j) dep ds k
/-! ### the numbered rows beside the scan -/
theorem badPlace_app : ∀ (a b : List Row), badPlace (a ++ b) = (match badPlace a with | some i => some i | none => badPlace b)
  | [], b => rfl
  | r :: a, b => by
    rw [List.cons_append, badPlace, badPlace]
    by_cases h : 12 ≤ r.1 ∨ isPart r.2.1 r.2.2 = false
    · rw [if_pos h, if_pos h]
    · rw [if_neg h, if_neg h]
      exact badPlace_app a b
theorem badPlace_pre {a c : List Row} {i : Int} (h : badPlace a = some i) (hp : ∃ b, c = a ++ b) : badPlace c = some i := by
  obtain ⟨b, rfl⟩ := hp
  rw [badPlace_app, h]
theorem good_last {a : List Row} (h : badPlace a = none) : badLast a = false := by
  cases e : badLast a with
  | false => rfl
  | true =>
    obtain ⟨r, h1, h2⟩ := badLast_mem e
    have := (badPlace_none h r h1).2
    unfold badRow at h2
    rw [this] at h2
    cases h2
theorem numI_pre {g : List PyData → Int → List Row} {first : Int} : ∀ (bs : List PyData) (acc : List Row), ∃ b, (numI g first bs acc).1 = acc ++ b
  | [], acc => ⟨[], (List.append_nil _).symm⟩
  | b :: bs, acc => by
    rw [numI]
    split
    · exact ⟨_, rfl⟩
    · obtain ⟨c, e⟩ := numI_pre (g := g) (first := first) bs (acc ++ g (elems b) (first + acc.length))
      exact ⟨_, by rw [e, List.append_assoc]⟩
theorem numL_pre {g : List PyData → Int → List Row} {dep first : Int} : ∀ (ds : List PyData) (acc : List Row), ∃ b, numL g dep first ds acc = acc ++ b
  | [], acc => ⟨[], (List.append_nil _).symm⟩
  | d :: ds, acc => by
    rw [numL]
    split
    · obtain ⟨c, e⟩ := numI_pre (g := g) (first := first) (innerW d) (acc ++ [(first + acc.length, d, dep)])
      split
      · exact ⟨_, by rw [e, List.append_assoc]⟩
      · obtain ⟨c2, e2⟩ := numL_pre (g := g) (dep := dep) (first := first) ds (numI g first (innerW d) (acc ++ [(first + acc.length, d, dep)])).1
        exact ⟨_, by rw [e2, e, List.append_assoc, List.append_assoc]⟩
    · exact ⟨_, rfl⟩
def NS (rs : List Row) (f : Int) (s : Option Int × Int) : Prop := badPlace rs = s.1 ∧ (s.1 = none → s.2 = f + rs.length)
theorem numI_sca {g : List PyData → Int → List Row} {s : List PyData → Int → Option Int × Int} (hg : ∀ xs f, NS (g xs f) f (s xs f)) {first : Int} : ∀ (bs : List PyData) (acc : List Row), badPlace acc = none →
    (badPlace (numI g first bs acc).1 = (firI s bs (first + acc.length)).1) ∧ ((firI s bs (first + acc.length)).1 = none → (numI g first bs acc).2 = false ∧ (firI s bs (first + acc.length)).2 = first + (numI g first bs acc).1.length)
  | [], acc, h => ⟨h, fun _ => ⟨rfl, rfl⟩⟩
  | b :: bs, acc, h => by
    obtain ⟨h1, h2⟩ := hg (elems b) (first + acc.length)
    have ha : badPlace (acc ++ g (elems b) (first + acc.length)) = (s (elems b) (first + acc.length)).1 := by rw [badPlace_app, h]; exact h1
    rw [firI]
    cases e : (s (elems b) (first + acc.length)).1 with
    | some i =>
      rw [e] at ha
      simp only [Option.isSome, if_true]
      refine ⟨?_, fun z => by rw [e] at z; cases z⟩
      rw [e]
      rw [numI]
      split
      · exact ha
      · exact badPlace_pre ha (numI_pre _ _)
    | none =>
      rw [e] at ha
      have h3 := h2 e
      simp only [Option.isSome]
      rw [numI, if_neg (by rw [good_last ha]; decide)]
      have ih := numI_sca hg (first := first) bs (acc ++ g (elems b) (first + acc.length)) ha
      have e4 : first + ((acc ++ g (elems b) (first + acc.length)).length : Int) = (s (elems b) (first + acc.length)).2 := by
        rw [List.length_append, h3]
        push_cast
        omega
      rw [e4] at ih
      exact ih
theorem numL_sca {g : List PyData → Int → List Row} {s : List PyData → Int → Option Int × Int} (hg : ∀ xs f, NS (g xs f) f (s xs f)) {dep first : Int} : ∀ (ds : List PyData) (acc : List Row), badPlace acc = none →
    badPlace (numL g dep first ds acc) = (scaL s dep ds (first + acc.length)).1 ∧ ((scaL s dep ds (first + acc.length)).1 = none → (scaL s dep ds (first + acc.length)).2 = first + (numL g dep first ds acc).length)
  | [], acc, h => ⟨h, fun _ => rfl⟩
  | d :: ds, acc, h => by
    rw [scaL]
    by_cases hb : 12 ≤ first + (acc.length : Int) ∨ isPart d dep = false
    · rw [if_pos hb]
      refine ⟨?_, fun z => by cases z⟩
      have h1 : badPlace (acc ++ [(first + (acc.length : Int), d, dep)]) = some (first + acc.length) := by
        rw [badPlace_app, h]
        show badPlace [_] = _
        rw [badPlace, if_pos hb]
      by_cases hp : isPart d dep = true
      · refine badPlace_pre h1 ?_
        rw [numL, if_pos hp]
        obtain ⟨c, e⟩ := numI_pre (g := g) (first := first) (innerW d) (acc ++ [(first + acc.length, d, dep)])
        split
        · exact ⟨c, e⟩
        · obtain ⟨c2, e2⟩ := numL_pre (g := g) (dep := dep) (first := first) ds (numI g first (innerW d) (acc ++ [(first + acc.length, d, dep)])).1
          exact ⟨c ++ c2, by rw [e2, e, List.append_assoc]⟩
      · rw [numL, if_neg hp]
        exact h1
    · rw [if_neg hb]
      have hp : isPart d dep = true := by
        cases e : isPart d dep with
        | true => rfl
        | false => exact absurd (.inr e) hb
      have h1 : badPlace (acc ++ [(first + (acc.length : Int), d, dep)]) = none := by
        rw [badPlace_app, h]
        show badPlace [_] = _
        rw [badPlace, if_neg hb]
        rfl
      have el : first + ((acc ++ [(first + (acc.length : Int), d, dep)]).length : Int) = first + acc.length + 1 := by
        rw [List.length_append]
        show first + ((acc.length + 1 : Nat) : Int) = _
        omega
      obtain ⟨k1, k2⟩ := numI_sca hg (first := first) (innerW d) _ h1
      rw [el] at k1 k2
      rw [numL, if_pos hp]
      cases e : (firI s (innerW d) (first + acc.length + 1)).1 with
      | some i =>
        rw [e] at k1
        simp only [Option.isSome, if_true]
        refine ⟨?_, fun z => by rw [e] at z; cases z⟩
        rw [e]
        split
        · exact k1
        · exact badPlace_pre k1 (numL_pre _ _)
      | none =>
        rw [e] at k1
        obtain ⟨k3, k4⟩ := k2 e
        simp only [Option.isSome]
        rw [k3]
        have ih := numL_sca hg (dep := dep) (first := first) ds _ k1
        rw [← k4] at ih
        exact ih
theorem num_sca : ∀ (n : Nat) (ds : List PyData) (first dep : Int), NS (num n ds first dep) first (sca n ds dep first)
  | 0, ds, first, dep => ⟨rfl, fun _ => by simp [sca, num]⟩
  | n + 1, ds, first, dep => by
    have h := numL_sca (g := fun xs f => num n xs f (dep + 1)) (s := fun xs f => sca n xs (dep + 1) f) (fun xs f => num_sca n xs f (dep + 1)) (dep := dep) (first := first) ds [] rfl
    have e : first + (([] : List Row).length : Int) = first := by simp
    rw [e] at h
    exact h
end K07
namespace K07
open PySem PySem.Spec PyProof.Rows L2
/-! ### the law's count beside the scan of the bent block -/
structure Rel (F S : Option Int × Int) (B : List PyData × Int) (xs : List PyData) : Prop where
  same : F.1 = S.1
  rest : F.1 = none → S.2 = F.2 ∧ B = (xs, F.2) ∧ 0 ≤ F.2 ∧ F.2 ≤ 12
theorem leaf_inner : ∀ d ∈ leaves, innerW d = [] ∧ bbW d = false ∧ isPart d 0 = true ∧ isPart d 1 = true ∧ isPart d 2 = true := by decide +kernel
theorem dep3 {dep : Int} (h0 : 0 ≤ dep) (h2 : dep ≤ 2) : dep = 0 ∨ dep = 1 ∨ dep = 2 := by omega
theorem leaf_part {d : PyData} (h : d ∈ leaves) {dep : Int} (h0 : 0 ≤ dep) (h2 : dep ≤ 2) : isPart d dep = true := by
  obtain ⟨_, _, a, b, c⟩ := leaf_inner d h
  rcases dep3 h0 h2 with rfl | rfl | rfl
  · exact a
  · exact b
  · exact c
theorem Zb.z {z : Str} {bs : List (List PyData)} (h : Zb z bs) : z = "maybe" ∨ z = "both" := h.imp And.left And.left
theorem Zb.ne {z : Str} {bs : List (List PyData)} (h : Zb z bs) : bs ≠ [] := by
  intro e
  rcases h with ⟨_, h⟩ | ⟨_, h⟩ <;> rw [e] at h <;> cases h
theorem Zb.size {z : Str} {bs : List (List PyData)} (h : Zb z bs) : (sizes z).getD 0 = (bs.length : Int) + 1 := by
  rcases h with ⟨rfl, h⟩ | ⟨rfl, h⟩ <;> rw [h] <;> rfl
theorem blk_inner {z : Str} {bs : List (List PyData)} (h : Zb z bs) : innerW (.tuple (.str z :: bs.map PyData.tuple)) = bs.map PyData.tuple := inner_yes h.z
theorem blk_part {z : Str} {bs : List (List PyData)} (h : Zb z bs) {dep : Int} (hd : dep < 2) : isPart (.tuple (.str z :: bs.map PyData.tuple)) dep = true := by
  rw [isPart_str, part_blocks h.z, List.length_map, h.size, decide_eq_true rfl, Bool.true_and, List.all_map, List.all_eq_true]
  intro b _
  show (isTupD (.tuple b) && decide (dep + 1 < 3)) = true
  rw [decide_eq_true (by omega)]
  rfl
theorem blk_deep {z : Str} {bs : List (List PyData)} (h : Zb z bs) : isPart (.tuple (.str z :: bs.map PyData.tuple)) 2 = false := by
  rw [isPart_str, part_blocks h.z]
  have hn := h.ne
  cases bs with
  | nil => exact absurd rfl hn
  | cons b bs =>
    rw [List.map_cons, List.all_cons]
    have e : isBlock (.tuple b) (2 + 1) = false := by
      show (isTupD (.tuple b) && decide ((2 + 1 : Int) < 3)) = false
      rw [show decide ((2 + 1 : Int) < 3) = false from by decide, Bool.and_false]
    rw [e, Bool.false_and, Bool.and_false]
theorem benI_shape {g : List PyData → Int → List PyData × Int} : ∀ (bs : List PyData) (k : Int), ∃ cs : List (List PyData), (benI g bs k).1 = cs.map PyData.tuple ∧ cs.length = bs.length
  | [], k => ⟨[], rfl, rfl⟩
  | b :: bs, k => by
    obtain ⟨cs, e, l⟩ := benI_shape (g := g) bs (g (elems b) k).2
    exact ⟨(g (elems b) k).1 :: cs, by rw [benI, e]; rfl, by simp [l]⟩
theorem relI {gF gS : List PyData → Int → Option Int × Int} {gB : List PyData → Int → List PyData × Int} {T : PyData → Prop}
    (hg : ∀ xs k, (∀ x ∈ xs, T x) → 0 ≤ k → k ≤ 12 → Rel (gF xs k) (gS (gB xs k).1 k) (gB xs k) xs) :
    ∀ (bs : List (List PyData)) (k : Int), (∀ b ∈ bs, ∀ x ∈ b, T x) → 0 ≤ k → k ≤ 12 → Rel (firI gF (bs.map PyData.tuple) k) (firI gS (benI gB (bs.map PyData.tuple) k).1 k) (benI gB (bs.map PyData.tuple) k) (bs.map PyData.tuple)
  | [], k, _, h0, h1 => ⟨rfl, fun _ => ⟨rfl, rfl, h0, h1⟩⟩
  | b :: bs, k, hT, h0, h1 => by
    have r := hg b k (hT b List.mem_cons_self) h0 h1
    rw [List.map_cons, firI, benI, firI]
    show Rel (if (gF b k).1.isSome then gF b k else firI gF (bs.map PyData.tuple) (gF b k).2) (if (gS (gB b k).1 k).1.isSome then gS (gB b k).1 k else firI gS (benI gB (bs.map PyData.tuple) (gB b k).2).1 (gS (gB b k).1 k).2) (PyData.tuple (gB b k).1 :: (benI gB (bs.map PyData.tuple) (gB b k).2).1, (benI gB (bs.map PyData.tuple) (gB b k).2).2) _
    cases e : (gF b k).1 with
    | some i =>
      have e2 : (gS (gB b k).1 k).1 = some i := by rw [← r.same, e]
      rw [e2]
      simp only [Option.isSome, if_true]
      exact ⟨by rw [e, e2], fun z => by rw [e] at z; cases z⟩
    | none =>
      have e2 : (gS (gB b k).1 k).1 = none := by rw [← r.same, e]
      obtain ⟨r1, r2, r3, r4⟩ := r.rest e
      rw [e2]
      simp only [Option.isSome]
      have ih := relI hg bs (gF b k).2 (fun c hc => hT c (List.mem_cons_of_mem _ hc)) r3 r4
      have eB1 : (gB b k).1 = b := by rw [r2]
      have eB2 : (gB b k).2 = (gF b k).2 := by rw [r2]
      rw [r1, eB2, eB1]
      refine ⟨ih.same, fun z => ?_⟩
      obtain ⟨i1, i2, i3, i4⟩ := ih.rest z
      refine ⟨i1, ?_, i3, i4⟩
      rw [i2]
      rfl
theorem bb_blk {z : Str} {bs : List (List PyData)} (h : Zb z bs) : bbW (.tuple (.str z :: bs.map PyData.tuple)) = true := decide_eq_true h.z
theorem relL {gF gS : List PyData → Int → Option Int × Int} {gB : List PyData → Int → List PyData × Int} {m : Nat} {dep at_ : Int} {odd : PyData} (d0 : 0 ≤ dep) (d2 : dep ≤ 2) (ho : isPart odd dep = false)
    (hg : dep < 2 → ∀ xs k, (∀ x ∈ xs, Tr leaves m x) → 0 ≤ k → k ≤ 12 → Rel (gF xs k) (gS (gB xs k).1 k) (gB xs k) xs) :
    ∀ (ds : List PyData) (k : Int), (∀ d ∈ ds, Tr leaves (m + 1) d) → 0 ≤ k → k ≤ 12 → Rel (firL gF at_ dep ds k) (scaL gS dep (benL gB at_ odd ds k).1 k) (benL gB at_ odd ds k) ds
  | [], k, _, h0, h1 => ⟨rfl, fun _ => ⟨rfl, rfl, h0, h1⟩⟩
  | d :: ds, k, hT, h0, h1 => by
    have ih := relL (m := m) (at_ := at_) d0 d2 ho hg ds
    rw [firL, benL]
    show Rel _ (scaL gS dep (_ :: _) k) _ _
    rw [scaL]
    by_cases hk : k = at_ ∨ k = 12 ∨ (bbW d = true ∧ dep = 2)
    · rw [if_pos hk]
      rw [if_pos ?_]
      · exact ⟨rfl, fun z => by cases z⟩
      · by_cases ha : k = at_
        · rw [if_pos ha]
          exact .inr ho
        · rw [if_neg ha]
          rcases hk with hk | hk | ⟨hb, rfl⟩
          · exact absurd hk ha
          · exact .inl (by omega)
          · right
            rcases hT d List.mem_cons_self with hl | ⟨z, bs, hz, rfl, _⟩
            · rw [(leaf_inner d hl).2.1] at hb
              cases hb
            · rw [blk_inner hz]
              obtain ⟨cs, e, l⟩ := benI_shape (g := gB) (bs.map PyData.tuple) (k + 1)
              rw [if_neg (by intro z; exact hz.ne (List.map_eq_nil_iff.mp z)), e]
              exact blk_deep (z := z) (bs := cs) (by unfold Zb; rw [l, List.length_map]; exact hz)
    · have ha : k ≠ at_ := fun z => hk (.inl z)
      have hk12 : k < 12 := by have : k ≠ 12 := fun z => hk (.inr (.inl z)); omega
      rw [if_neg hk, if_neg ha]
      rcases hT d List.mem_cons_self with hl | ⟨z, bs, hz, rfl, hbs⟩
      · obtain ⟨hi, _⟩ := leaf_inner d hl
        rw [hi, if_pos rfl]
        have hpd : ¬ (12 ≤ k ∨ isPart d dep = false) := by
          rw [leaf_part hl d0 d2]
          intro z
          rcases z with z | z
          · omega
          · cases z
        rw [if_neg hpd, hi]
        show Rel (firL gF at_ dep ds (k + 1)) (scaL gS dep (benL gB at_ odd ds (k + 1)).1 (k + 1)) (d :: (benL gB at_ odd ds (k + 1)).1, (benL gB at_ odd ds (k + 1)).2) (d :: ds)
        have i := ih (k + 1) (fun c hc => hT c (List.mem_cons_of_mem _ hc)) (by omega) (by omega)
        refine ⟨i.same, fun z => ?_⟩
        obtain ⟨i1, i2, i3, i4⟩ := i.rest z
        exact ⟨i1, by rw [i2], i3, i4⟩
      · have hd2 : dep < 2 := by
          have : dep ≠ 2 := fun e => hk (.inr (.inr ⟨bb_blk hz, e⟩))
          omega
        have hne : ¬ (bs.map PyData.tuple = []) := fun z => hz.ne (List.map_eq_nil_iff.mp z)
        rw [blk_inner hz, if_neg hne]
        have r := relI (hg hd2) bs (k + 1) (fun b hb => (hbs b hb).2) (by omega) (by omega)
        obtain ⟨cs, e, l⟩ := benI_shape (g := gB) (bs.map PyData.tuple) (k + 1)
        have hzc : Zb z cs := by unfold Zb; rw [l, List.length_map]; exact hz
        have eh : hdW (.tuple (.str z :: bs.map PyData.tuple)) = .str z := rfl
        rw [eh, e, blk_inner hzc]
        have hpc : ¬ (12 ≤ k ∨ isPart (.tuple (.str z :: cs.map PyData.tuple)) dep = false) := by
          rw [blk_part hzc hd2]
          intro z
          rcases z with z | z
          · omega
          · cases z
        rw [if_neg hpc]
        rw [e] at r
        cases e1 : (firI gF (bs.map PyData.tuple) (k + 1)).1 with
        | some i =>
          have e2 : (firI gS (cs.map PyData.tuple) (k + 1)).1 = some i := by rw [← r.same, e1]
          rw [e2]
          simp only [Option.isSome, if_true]
          exact ⟨by rw [e1, e2], fun z => by rw [e1] at z; cases z⟩
        | none =>
          have e2 : (firI gS (cs.map PyData.tuple) (k + 1)).1 = none := by rw [← r.same, e1]
          obtain ⟨r1, r2, r3, r4⟩ := r.rest e1
          rw [e2]
          simp only [Option.isSome]
          have i := ih (firI gF (bs.map PyData.tuple) (k + 1)).2 (fun c hc => hT c (List.mem_cons_of_mem _ hc)) r3 r4
          have eb2 : (benI gB (bs.map PyData.tuple) (k + 1)).2 = (firI gF (bs.map PyData.tuple) (k + 1)).2 := by rw [r2]
          have eb1 : cs.map PyData.tuple = bs.map PyData.tuple := by rw [← e, r2]
          rw [r1, eb2, eb1]
          refine ⟨i.same, fun z => ?_⟩
          obtain ⟨i1, i2, i3, i4⟩ := i.rest z
          exact ⟨i1, by rw [i2]; rfl, i3, i4⟩
theorem rel_all {odd : PyData} (ho : ∀ dep : Int, 0 ≤ dep → dep ≤ 2 → isPart odd dep = false) (at_ : Int) : ∀ (n : Nat) (dep : Int), dep = 2 - (n : Int) → 0 ≤ dep → ∀ (ds : List PyData) (k : Int), (∀ d ∈ ds, Tr leaves (n + 1) d) → 0 ≤ k → k ≤ 12 →
    Rel (fir (n + 1) at_ ds dep k) (sca (n + 1) (ben (n + 2) at_ odd ds k).1 dep k) (ben (n + 2) at_ odd ds k) ds
  | 0, dep, e, h0, ds, k, hT, k0, k1 => relL (m := 0) h0 (by omega) (ho dep h0 (by omega)) (fun z => by omega) ds k hT k0 k1
  | n + 1, dep, e, h0, ds, k, hT, k0, k1 => relL (m := n + 1) h0 (by omega) (ho dep h0 (by omega)) (fun z xs k hx h1 h2 => rel_all ho at_ n (dep + 1) (by omega) (by omega) xs k hx h1 h2) ds k hT k0 k1
end K07
namespace K07
open PySem PySem.Spec PyProof.Rows L2
/-! ### the two answers -/
def oddL : List PyData := [.none, .int 5, .str "run", .tuple [], .tuple [.str "run"], .tuple [.str "run", .int 1], .tuple [.str "run", .int 2, .int 1], .tuple [.str "run", .int 0, .int 21], .tuple [.str "run", .int (-1), .int 2], .tuple [.str "run", .int 1, .bool true]] ++
  ([.tuple [.str "risk", .int 0], .list [.str "risk"], .tuple [.str "call", .str "a"], .tuple [.str "call", .str "a", .str "p", .int 1], .tuple [.str "call", .str "A", .str "p"], .tuple [.str "want", .str "a", .none]] ++
  ([.tuple [.str "maybe"], .tuple [.str "maybe", .none], .tuple [.str "maybe", .list []], .tuple [.str "both", .tuple []], .tuple [.str "both", .tuple [], .none], .tuple [.str "both", .list [], .tuple []], .tuple [.str "wait", .int 1]] ++
  [.tuple [.str "maybe", .tuple [], .tuple []], .tuple [.int 5, .int 1, .int 2], .tuple [.none], .tuple [.list [.str "run"], .int 1, .int 2], .tuple [.str "call", .int 5, .str "p"], .tuple [.str "run", .str "1", .int 2]]))
theorem odd_all : ∀ d ∈ oddL, isPart d 0 = false ∧ isPart d 1 = false ∧ isPart d 2 = false := by decide +kernel
theorem odd_no {d : PyData} (h : d ∈ oddL) : ∀ dep : Int, 0 ≤ dep → dep ≤ 2 → isPart d dep = false := fun dep h0 h2 => by
  obtain ⟨a, b, c⟩ := odd_all d h
  rcases dep3 h0 h2 with rfl | rfl | rfl
  · exact a
  · exact b
  · exact c
theorem manI_cnt {g : List PyData → Int → Option Int × Int} {m : List PyData → Int} {T : PyData → Prop} (hg : ∀ xs k, (∀ x ∈ xs, T x) → (g xs k).1 = none → (g xs k).2 = k + m xs) :
    ∀ (bs : List (List PyData)) (k : Int), (∀ b ∈ bs, ∀ x ∈ b, T x) → (firI g (bs.map PyData.tuple) k).1 = none → (firI g (bs.map PyData.tuple) k).2 = k + ((bs.map PyData.tuple).map fun b => m (elems b)).sum
  | [], k, _, _ => by simp [firI]
  | b :: bs, k, hT, h => by
    rw [List.map_cons, firI] at h ⊢
    have ee : elems (.tuple b) = b := rfl
    rw [ee] at h ⊢
    cases e : (g b k).1 with
    | some i =>
      rw [e] at h
      simp only [Option.isSome, if_true] at h
      rw [e] at h
      cases h
    | none =>
      rw [e] at h
      simp only [Option.isSome] at h ⊢
      have h1 := hg b k (hT b List.mem_cons_self) e
      have ih := manI_cnt hg bs (g b k).2 (fun c hc => hT c (List.mem_cons_of_mem _ hc)) h
      rw [List.map_cons, List.sum_cons, ee]
      rw [if_neg (by decide)]
      rw [ih, h1]
      omega
theorem manL_cnt {g : List PyData → Int → Option Int × Int} {m : List PyData → Int} {n : Nat} {dep at_ : Int} (hg : dep ≠ 2 → ∀ xs k, (∀ x ∈ xs, Tr leaves n x) → (g xs k).1 = none → (g xs k).2 = k + m xs) :
    ∀ (ds : List PyData) (k : Int), (∀ d ∈ ds, Tr leaves (n + 1) d) → (firL g at_ dep ds k).1 = none → (firL g at_ dep ds k).2 = k + (ds.map fun d => 1 + ((innerW d).map fun b => m (elems b)).sum).sum
  | [], k, _, _ => by simp [firL]
  | d :: ds, k, hT, h => by
    rw [firL] at h ⊢
    by_cases hk : k = at_ ∨ k = 12 ∨ (bbW d = true ∧ dep = 2)
    · rw [if_pos hk] at h
      cases h
    · rw [if_neg hk] at h ⊢
      have step : (firI g (innerW d) (k + 1)).1 = none → (firI g (innerW d) (k + 1)).2 = k + 1 + ((innerW d).map fun b => m (elems b)).sum := by
        rcases hT d List.mem_cons_self with hl | ⟨z, bs, hz, rfl, hbs⟩
        · rw [(leaf_inner d hl).1]
          intro _
          simp [firI]
        · rw [blk_inner hz]
          exact manI_cnt (hg (fun e => hk (.inr (.inr ⟨bb_blk hz, e⟩)))) bs (k + 1) (fun b hb => (hbs b hb).2)
      cases e : (firI g (innerW d) (k + 1)).1 with
      | some i =>
        rw [e] at h
        simp only [Option.isSome, if_true] at h
        rw [e] at h
        cases h
      | none =>
        rw [e] at h
        simp only [Option.isSome] at h ⊢
        have h1 := step e
        have ih := manL_cnt hg ds (firI g (innerW d) (k + 1)).2 (fun c hc => hT c (List.mem_cons_of_mem _ hc)) h
        rw [if_neg (by decide), ih, h1, List.map_cons, List.sum_cons]
        omega
theorem man_cnt (at_ : Int) : ∀ (n : Nat) (dep : Int), dep = 2 - (n : Int) → ∀ (ds : List PyData) (k : Int), (∀ d ∈ ds, Tr leaves (n + 1) d) → (fir (n + 1) at_ ds dep k).1 = none → (fir (n + 1) at_ ds dep k).2 = k + man (n + 2) ds
  | 0, dep, e, ds, k, hT, h => manL_cnt (n := 0) (m := fun xs => man 1 xs) (fun z => absurd (by omega) z) ds k hT h
  | n + 1, dep, e, ds, k, hT, h => manL_cnt (n := n + 1) (m := fun xs => man (n + 2) xs) (fun _ xs k hx h => man_cnt at_ n (dep + 1) (by omega) xs k hx h) ds k hT h
/-! ### a place that there is not bends nothing -/
theorem benI_id {g : List PyData → Int → List PyData × Int} {T : PyData → Prop} (hg : ∀ xs k, (∀ x ∈ xs, T x) → 0 ≤ k → (g xs k).1 = xs ∧ 0 ≤ (g xs k).2) :
    ∀ (bs : List (List PyData)) (k : Int), (∀ b ∈ bs, ∀ x ∈ b, T x) → 0 ≤ k → (benI g (bs.map PyData.tuple) k).1 = bs.map PyData.tuple ∧ 0 ≤ (benI g (bs.map PyData.tuple) k).2
  | [], k, _, h => ⟨rfl, h⟩
  | b :: bs, k, hT, h => by
    obtain ⟨h1, h2⟩ := hg b k (hT b List.mem_cons_self) h
    obtain ⟨i1, i2⟩ := benI_id hg bs (g b k).2 (fun c hc => hT c (List.mem_cons_of_mem _ hc)) h2
    rw [List.map_cons, benI]
    show (PyData.tuple (g b k).1 :: (benI g (bs.map PyData.tuple) (g b k).2).1) = _ ∧ 0 ≤ (benI g (bs.map PyData.tuple) (g b k).2).2
    rw [h1, i1]
    exact ⟨rfl, i2⟩
theorem benL_id {g : List PyData → Int → List PyData × Int} {T : PyData → Prop} {at_ : Int} {odd : PyData} (ha : at_ < 0) (hT : ∀ d, T d → innerW d = [] ∨ ∃ z bs, Zb z bs ∧ d = .tuple (.str z :: bs.map PyData.tuple) ∧ ∀ k, 0 ≤ k → (benI g (bs.map PyData.tuple) k).1 = bs.map PyData.tuple ∧ 0 ≤ (benI g (bs.map PyData.tuple) k).2) :
    ∀ (ds : List PyData) (k : Int), (∀ d ∈ ds, T d) → 0 ≤ k → (benL g at_ odd ds k).1 = ds ∧ 0 ≤ (benL g at_ odd ds k).2
  | [], k, _, h => ⟨rfl, h⟩
  | d :: ds, k, hds, h => by
    have hk : ¬ k = at_ := by omega
    rw [benL, if_neg hk]
    rcases hT d (hds d List.mem_cons_self) with hi | ⟨z, bs, hz, rfl, hb⟩
    · rw [hi, if_pos rfl]
      obtain ⟨i1, i2⟩ := benL_id (odd := odd) ha hT ds (k + 1) (fun c hc => hds c (List.mem_cons_of_mem _ hc)) (by omega)
      show (d :: (benL g at_ odd ds (k + 1)).1) = _ ∧ 0 ≤ (benL g at_ odd ds (k + 1)).2
      rw [i1]
      exact ⟨rfl, i2⟩
    · obtain ⟨b1, b2⟩ := hb (k + 1) (by omega)
      have hne : ¬ (bs.map PyData.tuple = []) := fun z => hz.ne (List.map_eq_nil_iff.mp z)
      rw [blk_inner hz, if_neg hne]
      obtain ⟨i1, i2⟩ := benL_id (odd := odd) ha hT ds (benI g (bs.map PyData.tuple) (k + 1)).2 (fun c hc => hds c (List.mem_cons_of_mem _ hc)) b2
      rw [i1, b1]
      exact ⟨rfl, i2⟩
theorem ben_id {at_ : Int} {odd : PyData} (ha : at_ < 0) : ∀ (n : Nat) (ds : List PyData) (k : Int), (∀ d ∈ ds, Tr leaves n d) → 0 ≤ k → (ben (n + 1) at_ odd ds k).1 = ds ∧ 0 ≤ (ben (n + 1) at_ odd ds k).2
  | 0, ds, k, h, hk => benL_id (T := Tr leaves 0) ha (fun d hd => .inl (leaf_inner d hd).1) ds k h hk
  | n + 1, ds, k, h, hk => benL_id (T := Tr leaves (n + 1)) ha (fun d hd => by
      rcases hd with hl | ⟨z, bs, hz, rfl, hbs⟩
      · exact .inl (leaf_inner d hl).1
      · exact .inr ⟨z, bs, hz, rfl, fun k hk => benI_id (fun xs k hx hk => ben_id ha n xs k hx hk) bs k (fun b hb => (hbs b hb).2) hk⟩) ds k h hk
end K07
namespace K07
open PySem PySem.Spec PyProof.Rows L2
/-! ### all rows are of trees -/
theorem numI_P {g : List PyData → Int → List Row} {first : Int} {Pd : PyData → Prop} (hg : ∀ xs f, (∀ d ∈ xs, Pd d) → ∀ r ∈ g xs f, Pd r.2.1) : ∀ (bs : List PyData) (acc : List Row), (∀ b ∈ bs, ∀ e ∈ elems b, Pd e) → (∀ r ∈ acc, Pd r.2.1) → ∀ r ∈ (numI g first bs acc).1, Pd r.2.1
  | [], acc, _, ha => ha
  | b :: bs, acc, hb, ha => by
    have h1 : ∀ r ∈ acc ++ g (elems b) (first + acc.length), Pd r.2.1 := fun r hr => (List.mem_append.mp hr).elim (ha r) (hg _ _ (hb b List.mem_cons_self) r)
    rw [numI]
    split
    · exact h1
    · exact numI_P hg bs _ (fun c hc => hb c (List.mem_cons_of_mem _ hc)) h1
theorem numL_P {g : List PyData → Int → List Row} {dep first : Int} {Pd : PyData → Prop} (hcl : ∀ d, Pd d → ∀ b ∈ innerW d, ∀ e ∈ elems b, Pd e) (hg : ∀ xs f, (∀ d ∈ xs, Pd d) → ∀ r ∈ g xs f, Pd r.2.1) : ∀ (ds : List PyData) (acc : List Row), (∀ d ∈ ds, Pd d) → (∀ r ∈ acc, Pd r.2.1) → ∀ r ∈ numL g dep first ds acc, Pd r.2.1
  | [], acc, _, ha => ha
  | d :: ds, acc, hb, ha => by
    have h1 : ∀ r ∈ acc ++ [(first + (acc.length : Int), d, dep)], Pd r.2.1 := fun r hr => (List.mem_append.mp hr).elim (ha r) (fun z => by cases List.mem_singleton.mp z; exact hb d List.mem_cons_self)
    have h2 := numI_P (first := first) hg (innerW d) _ (hcl d (hb d List.mem_cons_self)) h1
    rw [numL]
    split
    · split
      · exact h2
      · exact numL_P hcl hg ds _ (fun c hc => hb c (List.mem_cons_of_mem _ hc)) h2
    · exact h1
theorem num_P {Pd : PyData → Prop} (hcl : ∀ d, Pd d → ∀ b ∈ innerW d, ∀ e ∈ elems b, Pd e) : ∀ (n : Nat) (ds : List PyData) (first dep : Int), (∀ d ∈ ds, Pd d) → ∀ r ∈ num n ds first dep, Pd r.2.1
  | 0, _, _, _, _ => fun r h => by cases h
  | n + 1, ds, first, dep, h => numL_P hcl (fun xs f hx => num_P hcl n xs f (dep + 1) hx) ds [] h (fun r hr => by cases hr)
def TrA (d : PyData) : Prop := ∃ n, Tr leaves n d
theorem trA_in : ∀ d, TrA d → ∀ b ∈ innerW d, ∀ e ∈ elems b, TrA e := by
  rintro d ⟨n, h⟩ b hb e he
  cases n with
  | zero => rw [(leaf_inner d h).1] at hb; cases hb
  | succ n =>
    rcases h with hl | ⟨z, bs, hz, rfl, hbs⟩
    · rw [(leaf_inner d hl).1] at hb; cases hb
    · rw [blk_inner hz] at hb
      obtain ⟨c, hc, rfl⟩ := List.mem_map.mp hb
      exact ⟨n, (hbs c hc).2 e he⟩
theorem leaf_call : ∀ d ∈ leaves, callW d = true → calleeN d = "a" ∧ polName d = "p" := by decide +kernel
theorem trA_call : ∀ d, TrA d → callW d = true → calleeN d = "a" ∧ polName d = "p" := by
  rintro d ⟨n, h⟩ hc
  cases n with
  | zero => exact leaf_call d h hc
  | succ n =>
    rcases h with hl | ⟨z, bs, hz, rfl, hbs⟩
    · exact leaf_call d hl hc
    · exfalso
      have hc' : decide (z = "call" ∨ z = "want") = true := hc
      rcases hz with ⟨rfl, _⟩ | ⟨rfl, _⟩ <;> exact absurd hc' (by decide +kernel)
abbrev ahA : Str → Bool := fun a => decide (a ∈ (["a"] : List Str))
abbrev poP : Str → Bool := fun q => decide (q ∈ (["p"] : List Str))
theorem badCall_ok : ∀ (ds es : List PyData), (∀ d ∈ ds, callW d = true → calleeN d = "a" ∧ polName d = "p") → badCall ahA poP (ds ++ es) = badCall ahA poP es
  | [], es, _ => rfl
  | d :: ds, es, h => by
    rw [List.cons_append, badCall, badCall_ok ds es (fun c hc => h c (List.mem_cons_of_mem _ hc))]
    split
    · rename_i hc
      obtain ⟨h1, h2⟩ := h d List.mem_cons_self hc
      rw [h1, h2, if_neg (by decide), if_neg (by decide)]
    · rfl
/-! ### spans -/
theorem sum_le {α : Type} {f : α → Int} {m : Int} : ∀ {l : List α}, (∀ x ∈ l, f x ≤ m) → (l.map f).sum ≤ m * l.length
  | [], _ => by simp
  | x :: l, h => by
    have ih := sum_le (f := f) (m := m) (l := l) fun y hy => h y (List.mem_cons_of_mem _ hy)
    have h1 := h x List.mem_cons_self
    rw [List.map_cons, List.sum_cons, List.length_cons]
    push_cast
    rw [Int.mul_add]
    omega
theorem maxL_le {m : Int} (h0 : 0 ≤ m) {ns : List Int} (h : ∀ x ∈ ns, x ≤ m) : maxL ns ≤ m := by
  cases ns with
  | nil => exact h0
  | cons x xs =>
    show xs.foldl max x ≤ m
    rcases (foldl_max xs x).2.2 with e | e
    · rw [e]; exact h x List.mem_cons_self
    · exact h _ (List.mem_cons_of_mem _ e)
theorem leaf_span {d : PyData} (h : d ∈ leaves) (n : Nat) : spanP (fun _ => 2) n d ≤ 20 := by
  unfold leaves at h
  simp only [List.mem_cons, List.not_mem_nil, or_false] at h
  rcases h with rfl | rfl | rfl | rfl
  · unfold spanP; rw [if_pos rfl]; decide
  · unfold spanP; rw [if_neg (by decide), if_neg (by decide), if_neg (by decide)]; decide
  · unfold spanP; rw [if_neg (by decide), if_pos (by decide)]; decide
  · unfold spanP; rw [if_pos rfl]; decide
theorem blk_span {z : Str} {bs : List (List PyData)} (hz : Zb z bs) (n : Nat) : spanP (fun _ => 2) (n + 1) (.tuple (.str z :: bs.map PyData.tuple)) = maxL ((bs.map PyData.tuple).map fun b => ((elems b).map (spanP (fun _ => 2) n)).sum) := by
  have hzz := hz.z
  rw [spanP, if_neg (by rcases hzz with rfl | rfl <;> decide), if_neg (by rcases hzz with rfl | rfl <;> decide), if_pos hzz]
theorem blk_span0 {z : Str} {bs : List (List PyData)} (hz : Zb z bs) : spanP (fun _ => 2) 0 (.tuple (.str z :: bs.map PyData.tuple)) = 0 := by
  have hzz := hz.z
  rw [spanP, if_neg (by rcases hzz with rfl | rfl <;> decide), if_neg (by rcases hzz with rfl | rfl <;> decide), if_pos hzz]
theorem tr_span : ∀ (n m : Nat) (d : PyData), Tr leaves m d → spanP (fun _ => 2) n d ≤ 20 * 2 ^ n
  | n, 0, d, h => Int.le_trans (leaf_span h n) (by
      have : (1 : Int) ≤ 2 ^ n := by exact_mod_cast Nat.one_le_two_pow
      omega)
  | n, m + 1, d, h => by
    have p1 : (1 : Int) ≤ 2 ^ n := by exact_mod_cast Nat.one_le_two_pow
    rcases h with hl | ⟨z, bs, hz, rfl, hbs⟩
    · exact Int.le_trans (leaf_span hl n) (by omega)
    · cases n with
      | zero => rw [blk_span0 hz]; decide
      | succ n =>
        rw [blk_span hz]
        refine maxL_le (by omega) fun x hx => ?_
        rw [List.map_map] at hx
        obtain ⟨b, hb, rfl⟩ := List.mem_map.mp hx
        obtain ⟨hl, ht⟩ := hbs b hb
        have s := sum_le (f := spanP (fun _ => 2) n) (m := 20 * 2 ^ n) (l := b) fun y hy => tr_span n m y (ht y hy)
        show (b.map (spanP (fun _ => 2) n)).sum ≤ _
        have p2 : (1 : Int) ≤ 2 ^ n := by exact_mod_cast Nat.one_le_two_pow
        have e : (20 * 2 ^ (n + 1) : Int) = 20 * 2 ^ n * 2 := by rw [Int.pow_succ, Int.mul_assoc]
        rw [e]
        exact Int.le_trans s (Int.mul_le_mul_of_nonneg_left (by omega) (by omega))
theorem span_ok {ds : List PyData} (hl : ds.length ≤ 5) (h : ∀ d ∈ ds, Tr leaves 3 d) : ¬ 400 < spanTop (fun _ => 2) ds := by
  have s := sum_le (f := spanP (fun _ => 2) 2) (m := 80) (l := ds) fun y hy => tr_span 2 3 y (h y hy)
  unfold spanTop
  omega
/-! ### the answers -/
theorem first_ans {ds : List PyData} {odd : PyData} {at_ : Int} (hl : ds.length ≤ 5) (h : ∀ d ∈ ds, Tr leaves 3 d) (ho : odd ∈ oddL) :
    errB (ben 4 at_ odd ds 0).1 = (match (fir 3 at_ ds 0 0).1 with | some i => some (.part "b" i) | none => none) := by
  have r := rel_all (odd_no ho) at_ 2 0 (by decide) (by decide) ds 0 h (by decide) (by decide)
  have ns := num_sca 3 (ben 4 at_ odd ds 0).1 0 0
  rw [errB_eq]
  unfold blkErr
  rw [ns.1, ← r.same]
  cases e : (fir 3 at_ ds 0 0).1 with
  | some i => rfl
  | none =>
    obtain ⟨r1, r2, r3, r4⟩ := r.rest e
    have eb : (ben 4 at_ odd ds 0).1 = ds := by rw [show ben 4 at_ odd ds 0 = _ from r2]
    rw [eb]
    have hc : badCall ahA poP (partsW ds) = none := by
      have z := badCall_ok (partsW ds) [] fun d hd => by
        obtain ⟨r, hr, rfl⟩ := List.mem_map.mp hd
        exact trA_call _ (num_P trA_in 3 ds 0 0 (fun d hd => ⟨3, h d hd⟩) r hr)
      rw [List.append_nil] at z
      rw [z]
      rfl
    show (match badCall ahA poP (partsW ds) with | some z => some (SErr.unk z) | none => if 400 < spanTop (fun _ => 2) ds then some (SErr.long "b") else none) = none
    rw [hc]
    exact if_neg (span_ok hl h)
theorem scaL_app {g : List PyData → Int → Option Int × Int} {dep : Int} : ∀ (ds es : List PyData) (k : Int), scaL g dep (ds ++ es) k = if (scaL g dep ds k).1.isSome then scaL g dep ds k else scaL g dep es (scaL g dep ds k).2
  | [], es, k => rfl
  | d :: ds, es, k => by
    rw [List.cons_append, scaL, scaL]
    by_cases h : 12 ≤ k ∨ isPart d dep = false
    · rw [if_pos h, if_pos h]; rfl
    · rw [if_neg h, if_neg h]
      by_cases h2 : (firI g (innerW d) (k + 1)).1.isSome = true
      · rw [if_pos h2, if_pos h2, if_pos h2]
      · rw [if_neg h2, if_neg h2]
        exact scaL_app ds es _
theorem numL_app {g : List PyData → Int → List Row} {dep first : Int} : ∀ (ds es : List PyData) (acc : List Row), badPlace (numL g dep first ds acc) = none → numL g dep first (ds ++ es) acc = numL g dep first es (numL g dep first ds acc)
  | [], es, acc, _ => rfl
  | d :: ds, es, acc, h => by
    rw [List.cons_append]
    rw [numL] at h
    rw [numL, numL]
    by_cases hp : isPart d dep = true
    · rw [if_pos hp] at h ⊢
      rw [if_pos hp]
      by_cases h2 : (numI g first (innerW d) (acc ++ [(first + acc.length, d, dep)])).2 = true
      · rw [if_pos h2] at h
        obtain ⟨r, h3, h4⟩ := numI_bad _ _ h2
        have := (badPlace_none h r h3).2
        unfold badRow at h4
        rw [this] at h4
        cases h4
      · rw [if_neg h2] at h ⊢
        rw [if_neg h2]
        exact numL_app ds es _ h
    · rw [if_neg hp] at h
      have := (badPlace_none h (first + acc.length, d, dep) (List.mem_append.mpr (.inr (List.mem_singleton.mpr rfl)))).2
      exact absurd this hp
def callN : PyData := .tuple [.str "call", .str "none", .str "none"]
theorem callN_ok : isPart callN 0 = true ∧ innerW callN = [] ∧ badCall ahA poP [callN] = some ("none" : Str) := by decide +kernel
theorem second_ans {ds : List PyData} (h : ∀ d ∈ ds, Tr leaves 3 d) :
    errB (ds ++ [callN]) = (match (fir 3 (-1) ds 0 0).1 with | some i => some (.part "b" i) | none => if 12 ≤ man 4 ds then some (.part "b" 12) else some (.unk "none")) := by
  have ho : (PyData.none) ∈ oddL := by unfold oddL; exact List.mem_append.mpr (.inl List.mem_cons_self)
  have r := rel_all (odd_no ho) (-1) 2 0 (by decide) (by decide) ds 0 h (by decide) (by decide)
  rw [(ben_id (odd := .none) (by decide : (-1 : Int) < 0) 3 ds 0 h (by decide)).1] at r
  have ns := num_sca 3 (ds ++ [callN]) 0 0
  have ns0 := num_sca 3 ds 0 0
  have e3 : sca 3 (ds ++ [callN]) 0 0 = if (sca 3 ds 0 0).1.isSome then sca 3 ds 0 0 else scaL (fun xs j => sca 2 xs 1 j) 0 [callN] (sca 3 ds 0 0).2 := scaL_app ds [callN] 0
  rw [errB_eq]
  unfold blkErr
  rw [ns.1, e3]
  have rs := r.same
  cases e : (fir 3 (-1) ds 0 0).1 with
  | some i =>
    rw [show (sca 3 ds 0 0).1 = some i from by rw [← rs]; exact e]
    simp only [Option.isSome, if_true]
    rw [show (sca 3 ds 0 0).1 = some i from by rw [← rs]; exact e]
  | none =>
    obtain ⟨r1, r2, r3, r4⟩ := r.rest e
    have ec := man_cnt (-1) 2 0 (by decide) ds 0 h e
    have es : (sca 3 ds 0 0).1 = none := by rw [← rs]; exact e
    have e2 : (sca 3 ds 0 0).2 = man 4 ds := by
      rw [show (sca 3 ds 0 0).2 = _ from r1, ec]
      show 0 + man 4 ds = man 4 ds
      omega
    have l12 : man 4 ds ≤ 12 := by rw [← e2, show (sca 3 ds 0 0).2 = _ from r1]; exact r4
    rw [es]
    simp only [Option.isSome]
    rw [if_neg (by decide), e2, scaL, callN_ok.1, callN_ok.2.1]
    by_cases hm : 12 ≤ man 4 ds
    · rw [if_pos (.inl hm), if_pos hm, show man 4 ds = 12 by omega]
    · rw [if_neg (by intro z; rcases z with z | z; exact hm z; cases z), if_neg hm]
      have hb : badPlace (num 3 ds 0 0) = none := by rw [ns0.1]; exact es
      have en : num 3 (ds ++ [callN]) 0 0 = num 3 ds 0 0 ++ [(0 + ((num 3 ds 0 0).length : Int), callN, 0)] := by
        show numL _ 0 0 (ds ++ [callN]) [] = _
        rw [numL_app ds [callN] [] hb, numL, if_pos callN_ok.1, callN_ok.2.1]
        rfl
      have ep : partsW (ds ++ [callN]) = partsW ds ++ [callN] := by
        unfold partsW
        rw [en, List.map_append]
        rfl
      have hc : badCall ahA poP (partsW (ds ++ [callN])) = some ("none" : Str) := by
        rw [ep, badCall_ok (partsW ds) [callN] fun d hd => by
          obtain ⟨r, hr, rfl⟩ := List.mem_map.mp hd
          exact trA_call _ (num_P trA_in 3 ds 0 0 (fun d hd => ⟨3, h d hd⟩) r hr)]
        exact callN_ok.2.2
      show (match badCall ahA poP (partsW (ds ++ [callN])) with | some z => some (SErr.unk z) | none => _) = _
      rw [hc]
end K07
namespace K07
open PySem PySem.Spec PyProof.Rows L2
/-! ### trees are small -/
structure SmB (c e : Nat) (d : PyData) : Prop where
  nd : d.hasDict = false
  lay : d.canLay0 = true
  dp : d.depth ≤ c
  wt : d.weight ≤ e
theorem SmB.mono {c e c' e' : Nat} {d : PyData} (h : SmB c e d) (h1 : c ≤ c') (h2 : e ≤ e') : SmB c' e' d := ⟨h.nd, h.lay, Nat.le_trans h.dp h1, Nat.le_trans h.wt h2⟩
theorem smB_all {c e : Nat} : ∀ {ds : List PyData}, (∀ d ∈ ds, SmB c e d) → PyData.hasDictAll ds = false ∧ PyData.canLayAll0 ds = true ∧ PyData.depthAll ds ≤ c ∧ PyData.weightAll ds ≤ (e + 1) * ds.length
  | [], _ => ⟨rfl, rfl, Nat.zero_le _, by simp [PyData.weightAll]⟩
  | d :: ds, h => by
    obtain ⟨a, b, c1, e1⟩ := smB_all (ds := ds) fun x hx => h x (List.mem_cons_of_mem _ hx)
    have k := h d List.mem_cons_self
    refine ⟨?_, ?_, ?_, ?_⟩
    · rw [PyData.hasDictAll, k.nd, a]; rfl
    · rw [PyData.canLayAll0, k.lay, b]; rfl
    · rw [PyData.depthAll]; exact Nat.max_le.mpr ⟨k.dp, c1⟩
    · rw [PyData.weightAll, List.length_cons, Nat.mul_add]
      have := k.wt
      omega
theorem smB_tup {c e n : Nat} {ds : List PyData} (h : ∀ d ∈ ds, SmB c e d) (hl : ds.length ≤ n) : SmB (c + 1) ((e + 1) * n) (.tuple ds) := by
  obtain ⟨a, b, c1, e1⟩ := smB_all h
  refine ⟨?_, ?_, ?_, ?_⟩
  · rw [PyData.hasDict]; exact a
  · rw [PyData.canLay0]; exact b
  · rw [PyData.depth]; omega
  · rw [PyData.weight]; exact Nat.le_trans e1 (Nat.mul_le_mul_left _ hl)
def wT : Nat → Nat | 0 => 60 | n + 1 => ((wT n + 1) * 2 + 1) * 3
theorem wT_ge : ∀ n, 60 ≤ wT n
  | 0 => Nat.le_refl _
  | n + 1 => by have := wT_ge n; rw [wT]; omega
def smBb (d : PyData) : Bool := !d.hasDict && (d.canLay0 && (decide (d.depth ≤ 4) && decide (d.weight ≤ 60)))
theorem smB_of {d : PyData} (h : smBb d = true) : SmB 4 60 d := by
  unfold smBb at h
  simp only [Bool.and_eq_true, Bool.not_eq_true', decide_eq_true_eq] at h
  exact ⟨h.1, h.2.1, h.2.2.1, h.2.2.2⟩
theorem sm_S0 : ∀ d ∈ leaves ++ oddL, smBb d = true := by decide +kernel
theorem sm_z : smBb (.str "maybe") = true ∧ smBb (.str "both") = true := by decide +kernel
theorem tr_sm : ∀ (n : Nat) (d : PyData), Tr (leaves ++ oddL) n d → SmB (4 + 2 * n) (wT n) d
  | 0, d, h => smB_of (sm_S0 d h)
  | n + 1, d, h => by
    have w1 := wT_ge n
    have w2 : wT (n + 1) = ((wT n + 1) * 2 + 1) * 3 := rfl
    rcases h with hl | ⟨z, bs, hz, rfl, hbs⟩
    · exact (smB_of (sm_S0 d hl)).mono (by omega) (wT_ge _)
    · rw [w2]
      have hlen : bs.length ≤ 2 := by rcases hz with ⟨_, h⟩ | ⟨_, h⟩ <;> omega
      refine (smB_tup (c := 4 + 2 * n + 1) (e := (wT n + 1) * 2) (n := 3) (fun x hx => ?_) ?_).mono (by omega) (Nat.le_refl _)
      · rcases List.mem_cons.mp hx with rfl | hx
        · have hzz : smBb (.str z) = true := by
            rcases hz.z with rfl | rfl
            · exact sm_z.1
            · exact sm_z.2
          exact (smB_of hzz).mono (by omega) (by omega)
        · obtain ⟨b, hb, rfl⟩ := List.mem_map.mp hx
          obtain ⟨h1, h2⟩ := hbs b hb
          exact smB_tup (fun y hy => tr_sm n y (h2 y hy)) h1
      · rw [List.length_cons, List.length_map]; omega
theorem tr_top {ds : List PyData} (hl : ds.length ≤ 6) (h : ∀ d ∈ ds, Tr (leaves ++ oddL) 3 d) : Sm (.tuple ds) := by
  have k := smB_tup (n := 6) (fun d hd => tr_sm 3 d (h d hd)) hl
  exact ⟨k.nd, k.lay, Nat.le_trans k.dp (by decide), Nat.le_trans k.wt (by decide)⟩
theorem Tr.up {S T : List PyData} (hST : ∀ d ∈ S, d ∈ T) : ∀ {n : Nat} {d : PyData}, Tr S n d → Tr T n d
  | 0, _, h => hST _ h
  | n + 1, _, .inl h => .inl (hST _ h)
  | n + 1, _, .inr ⟨z, bs, h1, h2, h3⟩ => .inr ⟨z, bs, h1, h2, fun b hb => ⟨(h3 b hb).1, fun x hx => Tr.up hST ((h3 b hb).2 x hx)⟩⟩
theorem benI_tr {g : List PyData → Int → List PyData × Int} {T U : PyData → Prop} (hg : ∀ xs k, (∀ x ∈ xs, T x) → (g xs k).1.length = xs.length ∧ ∀ x ∈ (g xs k).1, U x) :
    ∀ (bs : List (List PyData)) (k : Int), (∀ b ∈ bs, b.length ≤ 2 ∧ ∀ x ∈ b, T x) → ∃ cs : List (List PyData), (benI g (bs.map PyData.tuple) k).1 = cs.map PyData.tuple ∧ cs.length = bs.length ∧ ∀ c ∈ cs, c.length ≤ 2 ∧ ∀ x ∈ c, U x
  | [], k, _ => ⟨[], rfl, rfl, fun c hc => by cases hc⟩
  | b :: bs, k, h => by
    obtain ⟨cs, e, l, hc⟩ := benI_tr hg bs (g b k).2 (fun c hc => h c (List.mem_cons_of_mem _ hc))
    obtain ⟨h1, h2⟩ := h b List.mem_cons_self
    obtain ⟨g1, g2⟩ := hg b k h2
    refine ⟨(g b k).1 :: cs, ?_, by simp [l], fun c hc' => ?_⟩
    · rw [List.map_cons, benI]
      show (PyData.tuple (g b k).1 :: (benI g (bs.map PyData.tuple) (g b k).2).1) = _
      rw [e]
      rfl
    · rcases List.mem_cons.mp hc' with rfl | hc'
      · exact ⟨by omega, g2⟩
      · exact hc c hc'
theorem benL_tr {g : List PyData → Int → List PyData × Int} {T U : PyData → Prop} {at_ : Int} {odd : PyData} (ho : U odd) (hT : ∀ d, T d → (innerW d = [] ∧ U d) ∨ (innerW d ≠ [] ∧ ∀ k, U (.tuple (hdW d :: (benI g (innerW d) k).1)))) :
    ∀ (ds : List PyData) (k : Int), (∀ d ∈ ds, T d) → (benL g at_ odd ds k).1.length = ds.length ∧ ∀ x ∈ (benL g at_ odd ds k).1, U x
  | [], k, _ => ⟨rfl, fun x hx => by cases hx⟩
  | d :: ds, k, h => by
    obtain ⟨i1, i2⟩ := benL_tr (at_ := at_) ho hT ds (benI g (innerW d) (k + 1)).2 (fun c hc => h c (List.mem_cons_of_mem _ hc))
    rw [benL]
    refine ⟨by show (_ :: _ : List PyData).length = _; rw [List.length_cons, i1, List.length_cons], fun x hx => ?_⟩
    rcases List.mem_cons.mp hx with rfl | hx
    · split
      · exact ho
      · rcases hT d (h d List.mem_cons_self) with ⟨a, b⟩ | ⟨a, b⟩
        · rw [if_pos a]; exact b
        · rw [if_neg a]; exact b _
    · exact i2 x hx
theorem ben_tr {at_ : Int} {odd : PyData} (ho : odd ∈ oddL) : ∀ (n : Nat) (ds : List PyData) (k : Int), (∀ d ∈ ds, Tr leaves n d) → (ben (n + 1) at_ odd ds k).1.length = ds.length ∧ ∀ x ∈ (ben (n + 1) at_ odd ds k).1, Tr (leaves ++ oddL) n x
  | 0, ds, k, h => benL_tr (T := Tr leaves 0) (U := Tr (leaves ++ oddL) 0) (Tr.leaf (List.mem_append.mpr (.inr ho)) 0) (fun d hd => .inl ⟨(leaf_inner d hd).1, Tr.leaf (List.mem_append.mpr (.inl hd)) 0⟩) ds k h
  | n + 1, ds, k, h => benL_tr (T := Tr leaves (n + 1)) (U := Tr (leaves ++ oddL) (n + 1)) (Tr.leaf (List.mem_append.mpr (.inr ho)) _) (fun d hd => by
      rcases hd with hl | ⟨z, bs, hz, rfl, hbs⟩
      · exact .inl ⟨(leaf_inner d hl).1, Tr.leaf (List.mem_append.mpr (.inl hl)) _⟩
      · refine .inr ⟨?_, fun k => ?_⟩
        · rw [blk_inner hz]
          exact fun z => hz.ne (List.map_eq_nil_iff.mp z)
        · rw [blk_inner hz]
          obtain ⟨cs, e, l, hc⟩ := benI_tr (fun xs k hx => ben_tr ho n xs k hx) bs k hbs
          rw [show benI (fun xs j => ben (n + 1) at_ odd xs j) = benI (ben (n + 1) at_ odd) from rfl]
          rw [e]
          exact .inr ⟨z, cs, by unfold Zb; rw [l]; exact hz, rfl, hc⟩) ds k h
end K07
namespace K07
open PySem PySem.Spec PyProof.Rows L2
abbrev s_law_odd : Stmt := top 53
abbrev s_law_tree : Stmt := top 54
/-! ### heaps that know nothing of a list that changes -/
theorem upd_self {H : Hp} {p : Addr} {o : HO} (h : H p = some o) : upd H p o = H := funext fun b => by
  unfold upd
  by_cases e : b = p
  · rw [if_pos e, e, h]
  · rw [if_neg e]
theorem hid_upd {H : Hp} {p : Addr} {o : HO} : hid p (upd H p o) = hid p H := funext fun b => by
  unfold hid upd
  by_cases e : b = p
  · rw [if_pos e, if_pos e]
  · rw [if_neg e, if_neg e, if_neg e]
theorem hid_same {H H' : Hp} {p : Addr} (s : Same H H') : Same (hid p H) (hid p H') := fun b o e => by
  unfold hid at e ⊢
  by_cases z : b = p
  · rw [if_pos z] at e; cases e
  · rw [if_neg z] at e ⊢; exact s b o e
theorem hid_up {H H' : Hp} {p : Addr} (s : Same (hid p H) H') : Same (hid p H) (hid p H') := fun b o e => by
  have h := s b o e
  unfold hid at e ⊢
  by_cases z : b = p
  · rw [if_pos z] at e; cases e
  · rw [if_neg z]; exact h
theorem hid_none {H : Hp} {p b : Addr} (h : H b = none) : hid p H b = none := by
  unfold hid
  split
  · rfl
  · exact h
theorem hid_at {H : Hp} {p b : Addr} {o : HO} (h : H b = some o) (ne : b ≠ p) : hid p H b = some o := by
  unfold hid
  rw [if_neg ne]
  exact h
theorem IsPool.of {H : Hp} {p : Addr} {c z : Int} (h0 : 0 ≤ z) (h1 : z < 2147483647) : IsPool (upd H p (poolO c z)) p := ⟨c, z, upd_same, h0, h1⟩
theorem IsPool.up {H H' : Hp} {p : Addr} (s : Same H H') (h : IsPool H p) : IsPool H' p := by
  obtain ⟨c, z, a, b⟩ := h
  exact ⟨c, z, s _ _ a, b⟩
theorem dqA_get {K : PySem.W.Frag} {H : Hp} : ∀ {vs : List V} {ds : List PyData} {i : Nat}, DqA K H vs ds → i < ds.length → ∃ v d, vs[i]? = some v ∧ d ∈ ds ∧ ds[i]? = some d ∧ Dq K H v d
  | _, _, _, .nil, h => by cases h
  | _, _, 0, .cons a r, _ => ⟨_, _, rfl, List.mem_cons_self, rfl, a⟩
  | _, _, i + 1, .cons a r, h => by
    obtain ⟨v, d, h1, h2, h3, h4⟩ := dqA_get (i := i) r (by simpa using h)
    exact ⟨v, d, by simpa using h1, List.mem_cons_of_mem _ h2, by simpa using h3, h4⟩
/-! ### something that is no part -/
structure OddS (K : PySem.W.Frag) (p : Addr) (H G : Hp) (r : Addr) (vs : List V) (ds : List PyData) : Prop where
  sm : Same (hid p H) (hid p G)
  po : IsPool G p
  ls : G r = some (.lst vs)
  dq : DqA K (hid p G) vs ds
theorem OddS.first {K : PySem.W.Frag} {p r : Addr} {H H' : Hp} {es : List PyData} {vs : List V} (hp : IsPool H p) (t : Same H (upd H' r (.lst vs))) (f : H' r = none) (dq : DqA K (newOf H H') vs es) : OddS K p H (upd H' r (.lst vs)) r vs es := by
  refine ⟨hid_same t, hp.up t, upd_same, ?_⟩
  obtain ⟨c, y, h, _⟩ := hp
  exact dq.up ((newOf_hid h).trans (hid_same (Same.new' f)))
theorem OddS.cat {K : PySem.W.Frag} {p r r' q : Addr} {H G H' : Hp} {vs vs' : List V} {ds es : List PyData} (h : OddS K p H G r vs ds) (t : Same G (upd H' r' (.lst vs'))) (f : H' r' = none) (dq : DqA K (newOf G H') vs' es) (hq : upd H' r' (.lst vs') q = none) :
    OddS K p H (upd (upd H' r' (.lst vs')) q (.lst (vs ++ vs'))) q (vs ++ vs') (ds ++ es) := by
  have h2 := OddS.first (K := K) h.po t f dq
  have s2 : Same (upd H' r' (.lst vs')) (upd (upd H' r' (.lst vs')) q (.lst (vs ++ vs'))) := Same.new' hq
  exact ⟨(h.sm.trans (hid_same t)).trans (hid_same s2), h2.po.up s2, upd_same, DqA.app (h.dq.up ((hid_same t).trans (hid_same s2))) (h2.dq.up (hid_same s2))⟩
def spOdd (K : PySem.W.Frag) : Sp := fun vs H Q _ => ∃ (p : Addr), vs = [.ref p] ∧ IsPool H p ∧ ∀ v d H', d ∈ oddL → Same (hid p H) (hid p H') → IsPool H' p → Dq K (hid p H') v d → Q v H'
section
variable {P : Program} {w : World} {K : PySem.W.Frag} {mg : Str → Option Value} {base : Heap} {f g : Addr} {fd gd : FuncData} {CX : CXT}
theorem sc_law_odd : FnScope ["_law_pool_here", "_law_some"] ["_law_pool_here"] (defScope s_law_odd) := ⟨rfl, rfl, rfl, by decide +kernel, rfl, by decide +kernel, by decide +kernel⟩
theorem ok_law_odd (F : FnP K "_law_odd" s_law_odd f fd) {gD : Addr} {eD : FuncData} (GD : FnP K "_law_draw" s_law_draw gD eD) (mD : mg "_law_draw" = some (.ref gD)) (mint : mg "int" = none) (mlen : mg "len" = none) : FnOk P w K mg base CX0 2 f fd ["_law_pool_here"] (spOdd K) := by
  have bD : Binds K eD ["_law_pool_here", "_law_many_here"] [] := GD.bindsN fun _ _ _ _ _ _ us hl => match us, hl with | [_, _], _ => rfl
  have FD : FnOk P w K mg base CX0 1 gD eD ["_law_pool_here", "_law_many_here"] spDraw := ok_law_draw GD mint
  refine F.ok sc_law_odd (fun vs H Q E h => ?_) (fun cdv A outer s H vs Q E hr h => ?_)
  · obtain ⟨_, rfl, _⟩ := h
    rfl
  · obtain ⟨p, rfl, hp, q⟩ := h
    have hr1 := hr.mono (by decide : 1 ≤ 1)
    refine ⟨_, (pss_cons (ps_set (i := 1) sc_law_odd.nd rfl (Or.inl rfl) (pl_lstL (pla_cons pl_non (pla_cons pl_int (pla_cons pl_str (pla_cons (pl_tup pla_nil) (pla_cons (pl_tup (pla_cons pl_str pla_nil)) (pla_cons (pl_tup (pla_cons pl_str (pla_cons pl_int pla_nil))) (pla_cons (pl_tup (pla_cons pl_str (pla_cons pl_int (pla_cons pl_int pla_nil)))) (pla_cons (pl_tup (pla_cons pl_str (pla_cons pl_int (pla_cons pl_int pla_nil)))) (pla_cons (pl_tup (pla_cons pl_str (pla_cons pl_neg (pla_cons pl_int pla_nil)))) (pla_cons (pl_tup (pla_cons pl_str (pla_cons pl_int (pla_cons pl_bl pla_nil)))) pla_nil))))))))))))
      (pss_cons (ps_set (i := 1) sc_law_odd.nd rfl (Or.inl rfl) (pe_op op_cat (pv 1) (pl_lstL (pla_cons (pl_tup (pla_cons pl_str (pla_cons pl_int pla_nil))) (pla_cons (pl_lst (pla_cons pl_str pla_nil)) (pla_cons (pl_tup (pla_cons pl_str (pla_cons pl_str pla_nil))) (pla_cons (pl_tup (pla_cons pl_str (pla_cons pl_str (pla_cons pl_str (pla_cons pl_int pla_nil))))) (pla_cons (pl_tup (pla_cons pl_str (pla_cons pl_str (pla_cons pl_str pla_nil)))) (pla_cons (pl_tup (pla_cons pl_str (pla_cons pl_str (pla_cons pl_non pla_nil)))) pla_nil)))))))))
      (pss_cons (ps_set (i := 1) sc_law_odd.nd rfl (Or.inl rfl) (pe_op op_cat (pv 1) (pl_lstL (pla_cons (pl_tup (pla_cons pl_str pla_nil)) (pla_cons (pl_tup (pla_cons pl_str (pla_cons pl_non pla_nil))) (pla_cons (pl_tup (pla_cons pl_str (pla_cons (pl_lst pla_nil) pla_nil))) (pla_cons (pl_tup (pla_cons pl_str (pla_cons (pl_tup pla_nil) pla_nil))) (pla_cons (pl_tup (pla_cons pl_str (pla_cons (pl_tup pla_nil) (pla_cons pl_non pla_nil)))) (pla_cons (pl_tup (pla_cons pl_str (pla_cons (pl_lst pla_nil) (pla_cons (pl_tup pla_nil) pla_nil)))) (pla_cons (pl_tup (pla_cons pl_str (pla_cons pl_int pla_nil))) pla_nil))))))))))
      (pss_cons (ps_set (i := 1) sc_law_odd.nd rfl (Or.inl rfl) (pe_op op_cat (pv 1) (pl_lstL (pla_cons (pl_tup (pla_cons pl_str (pla_cons (pl_tup pla_nil) (pla_cons (pl_tup pla_nil) pla_nil)))) (pla_cons (pl_tup (pla_cons pl_int (pla_cons pl_int (pla_cons pl_int pla_nil)))) (pla_cons (pl_tup (pla_cons pl_non pla_nil)) (pla_cons (pl_tup (pla_cons (pl_lst (pla_cons pl_str pla_nil)) (pla_cons pl_int (pla_cons pl_int pla_nil)))) (pla_cons (pl_tup (pla_cons pl_str (pla_cons pl_int (pla_cons pl_str pla_nil)))) (pla_cons (pl_tup (pla_cons pl_str (pla_cons pl_str (pla_cons pl_int pla_nil)))) pla_nil)))))))))
      (pss_one (ps_ret (pe_ix ix_list (pv 1) (pe_call FD hr1 rfl mD GD.kp bD .nil pass0 (pa_cons (pv 0) (pa_cons (pe_callB call_len (by rfl) mlen (by decide +kernel) (pa_cons (pv 1) pa_nil)) pa_nil))) (fun _ _ => rfl)))))))), ?_⟩
    intro r1 v1 H1 n1 s1 t1 f1 d1
    have h1 := OddS.first (K := K) hp t1 f1 d1
    clear n1 s1 t1 f1 d1
    generalize upd H1 r1 (.lst v1) = G1 at h1 ⊢
    refine ⟨_, rfl, fun r2' w2 H2 n2 s2 t2 f2 d2 => ⟨r1, r2', v1, w2, rfl, rfl, t2 _ _ h1.ls, upd_same, (by rw [h1.dq.len, d2.len]; decide), fun r2 hr2 => ?_⟩⟩
    have h2 := h1.cat t2 f2 d2 hr2
    clear n2 s2 t2 f2 d2 hr2
    generalize upd (upd H2 r2' (.lst w2)) r2 (.lst (v1 ++ w2)) = G2 at h2 ⊢
    generalize v1 ++ w2 = v2 at h2 ⊢
    refine ⟨_, rfl, fun r3' w3 H3 n3 s3 t3 f3 d3 => ⟨r2, r3', v2, w3, rfl, rfl, t3 _ _ h2.ls, upd_same, (by rw [h2.dq.len, d3.len]; decide), fun r3 hr3 => ?_⟩⟩
    have h3 := h2.cat t3 f3 d3 hr3
    clear n3 s3 t3 f3 d3 hr3
    generalize upd (upd H3 r3' (.lst w3)) r3 (.lst (v2 ++ w3)) = G3 at h3 ⊢
    generalize v2 ++ w3 = v3 at h3 ⊢
    refine ⟨_, rfl, fun r4' w4 H4 n4 s4 t4 f4 d4 => ⟨r3, r4', v3, w4, rfl, rfl, t4 _ _ h3.ls, upd_same, (by rw [h3.dq.len, d4.len]; decide), fun r4 hr4 => ?_⟩⟩
    have h4 := h3.cat t4 f4 d4 hr4
    clear n4 s4 t4 f4 d4 hr4
    generalize upd (upd H4 r4' (.lst w4)) r4 (.lst (v3 ++ w4)) = G4 at h4 ⊢
    generalize v3 ++ w4 = v4 at h4 ⊢
    have hd := h4.dq
    rw [List.append_assoc, List.append_assoc] at hd
    have hlen : v4.length = 29 := by
      rw [h4.dq.len]
      rfl
    refine ⟨_, rfl, _, rfl, _, rfl, .ref r4, _, rfl, .inl ⟨v4, SqL.of h4.ls, rfl⟩, p, _, rfl, h4.po, ?_, ?_, fun i c z i0 i1 z0 z1 => ?_⟩
    · rw [hlen]; decide
    · rw [hlen]; decide
    · have hrp : r4 ≠ p := fun e => by
        obtain ⟨c', z', hh, _⟩ := h4.po
        rw [← e, h4.ls] at hh
        cases hh
        cases hlen
      rw [hlen] at i1
      have ei : ((i.toNat : Nat) : Int) = i := Int.toNat_of_nonneg i0
      have hd' : DqA K (hid p G4) v4 oddL := hd
      obtain ⟨v, d, e1, e2, _, e4⟩ := dqA_get (i := i.toNat) hd' (by
        show i.toNat < 29
        have i2 : i < ((29 : Nat) : Int) := i1
        omega)
      have ea : atI v4 i = some v := by
        rw [← ei]
        exact atI_nat e1
      refine ⟨r4, v4, i, v, rfl, rfl, SqL.of (by rw [upd_ne hrp]; exact h4.ls), ea, q v d _ e2 ?_ (IsPool.of z0 z1) ?_⟩
      · rw [hid_upd]; exact h4.sm
      · rw [hid_upd]; exact e4
end
end K07
namespace K07
open PySem PySem.Spec PyProof.Rows L2
/-! ### drawn trees -/
theorem new_sub {H B X : Hp} (h : ∀ b o, X b = some o → H b = none ∧ B b = some o) : Same X (newOf H B) := fun b o e => newOf_of (h b o e).1 (h b o e).2
theorem hid_some {H : Hp} {p b : Addr} {o : HO} (h : hid p H b = some o) : b ≠ p ∧ H b = some o := by
  unfold hid at h
  by_cases z : b = p
  · rw [if_pos z] at h; cases h
  · rw [if_neg z] at h; exact ⟨z, h⟩
theorem upd_none {H : Hp} {p b : Addr} {o : HO} (h : upd H p o b = none) : b ≠ p ∧ H b = none := by
  unfold upd at h
  by_cases z : b = p
  · rw [if_pos z] at h; cases h
  · rw [if_neg z] at h; exact ⟨z, h⟩
theorem IsPool.none {H : Hp} {p b : Addr} (h : IsPool H p) (hb : H b = none) : b ≠ p := fun e => by
  obtain ⟨c, z, hh, _⟩ := h
  rw [e, hh] at hb
  cases hb
def spTree (K : PySem.W.Frag) (n : Nat) : Sp := fun vs H Q _ => ∃ (p : Addr) (m : Nat), n = m + 1 ∧ vs = [.ref p, .int (m : Int)] ∧ IsPool H p ∧ ∀ v d H', Tr leaves m d → Same (hid p H) (hid p H') → IsPool H' p → Dq K (newOf H H') v d → Q v H'
theorem leaf_run {K : PySem.W.Frag} {p : Addr} {σ : L2.St} {H G : Hp} {Q : VK} (e0 : σ[0]? = some (some (.ref p))) (hp : IsPool G p) (hn : ∀ b, G b = none → H b = none) (hs : Same (hid p H) (hid p G)) (q : ∀ v d G', d ∈ leaves → Same (hid p H) (hid p G') → IsPool G' p → Dq K (newOf H G') v d → Q v G') :
    tOp (rIxL K) (tLitL K leaves) (tCall spDraw [] E0 (tCons (tVar 0) (tCons (tC (.int 4)) tNil))) σ G Q := by
  intro r vs G1 n1 s1 t1 f1 d1
  have hl : vs.length = 4 := by rw [d1.len]; rfl
  have h2 : IsPool (upd G1 r (.lst vs)) p := hp.up t1
  have hrp : r ≠ p := hp.none n1
  refine ⟨_, e0, p, 4, rfl, h2, by decide, by decide, fun i c z i0 i1 z0 z1 => ?_⟩
  have ei : ((i.toNat : Nat) : Int) = i := Int.toNat_of_nonneg i0
  obtain ⟨v, d, e1, e2, _, e4⟩ := dqA_get (i := i.toNat) d1 (by
    show i.toNat < 4
    omega)
  have ea : atI vs i = some v := by
    rw [← ei]
    exact atI_nat e1
  refine ⟨r, vs, i, v, rfl, rfl, SqL.of (by rw [upd_ne hrp]; exact upd_same), ea, q v d _ e2 ?_ (IsPool.of z0 z1) (e4.up (new_sub fun b o e => ?_))⟩
  · rw [hid_upd]; exact hs.trans (hid_same t1)
  · obtain ⟨a, b'⟩ := newOf_some e
    refine ⟨hn b a, ?_⟩
    rw [upd_ne (hp.none a), upd_ne (ne_of_none b' f1)]
    exact b'
section
variable {P : Program} {w : World} {K : PySem.W.Frag} {mg : Str → Option Value} {base : Heap} {f g : Addr} {fd gd : FuncData} {CX : CXT}
theorem sc_law_tree : FnScope ["_law_pool_here", "_law_depth", "_law_way", "_law_block", "_law_turn"] ["_law_pool_here", "_law_depth"] (defScope s_law_tree) := ⟨rfl, rfl, rfl, by decide +kernel, rfl, by decide +kernel, by decide +kernel⟩
theorem ok_tree0 {k : Nat} : FnOk P w K mg base CX0 k f fd ["_law_pool_here", "_law_depth"] (spTree K 0) :=
  ⟨fun vs H Q E h => (by obtain ⟨_, _, e, _⟩ := h; cases e), fun A o s H a us vs Q E hr e0 hb rv h => (by obtain ⟨_, _, e, _⟩ := h; cases e)⟩
theorem ok_tree {n : Nat} (GT : FnP K "_law_tree" s_law_tree f fd) (mT : mg "_law_tree" = some (.ref f)) {gD : Addr} {eD : FuncData} (GD : FnP K "_law_draw" s_law_draw gD eD) (mD : mg "_law_draw" = some (.ref gD)) (mint : mg "int" = none) (mr : mg "range" = none) (mt : mg "tuple" = none)
    (FR : FnOk P w K mg base CX0 (n + 1) f fd ["_law_pool_here", "_law_depth"] (spTree K n)) : FnOk P w K mg base CX0 (n + 2) f fd ["_law_pool_here", "_law_depth"] (spTree K (n + 1)) := by
  have bD : Binds K eD ["_law_pool_here", "_law_many_here"] [] := GD.bindsN fun _ _ _ _ _ _ us hl => match us, hl with | [_, _], _ => rfl
  have bT : Binds K fd ["_law_pool_here", "_law_depth"] [] := GT.bindsN fun _ _ _ _ _ _ us hl => match us, hl with | [_, _], _ => rfl
  have FD : FnOk P w K mg base CX0 1 gD eD ["_law_pool_here", "_law_many_here"] spDraw := ok_law_draw GD mint
  refine GT.ok sc_law_tree (fun vs H Q E h => ?_) (fun cdv A outer s H vs Q E hr h => ?_)
  · obtain ⟨_, _, _, rfl, _⟩ := h
    rfl
  · obtain ⟨p, m, em, rfl, hp, q⟩ := h
    cases Nat.succ.inj em
    have hr1 := hr.mono (by omega : 1 ≤ n + 1)
    refine ⟨_, PSs.nox (pss_cons (ps_set (i := 2) sc_law_tree.nd rfl (Or.inl rfl) (pe_call FD hr1 rfl mD GD.kp bD .nil pass0 (pa_cons (pv 0) (pa_cons pe_int pa_nil))))
      (pss_cons (ps_if (PW.pt (pw_and (pt_cmpR op_gt (pv 2) pe_int (nomark _)) (pw_and1 (pt_cmpR op_gt (pv 1) pe_int (nomark _))))) (pss_cons (ps_set (i := 3) sc_law_tree.nd rfl (Or.inl rfl) (pe_tupleOf (by rfl) mt (pe_lc (own := [("_law_turn", 4)]) (g := gName 4) (tt := tYes) rfl sc_law_tree.nd (pi_range1 rfl mr (pa_cons (pe_call FD hr1 rfl mD GD.kp bD .nil pass0 (pa_cons (pv 0) (pa_cons pe_int pa_nil))) pa_nil)) (blkOk_by (N := ["_law_pool_here", "_law_depth", "_law_way", "_law_block", "_law_turn"]) (sc := defScope s_law_tree) (by decide +kernel)) (fun _ _ _ _ _ => pg_name (i := 4) sc_law_tree.nd rfl (Or.inl rfl)) (fun _ _ _ _ _ => pts_nil) (fun _ _ _ _ _ => (pe_call FR hr rfl mT GT.kp bT .nil pass0 (pa_cons (pv 0) (pa_cons (pe_op op_sub (pv 1) pe_int) pa_nil)))))))
      (pss_one (ps_ret (pe_ifExp (pt_cmpR op_lt (pv 2) pe_int (nomark _)) (pe_tup (pa_cons pe_str (pa_cons (pv 3) pa_nil))) (pe_tup (pa_cons pe_str (pa_cons (pv 3) (pa_cons (pe_tup (pa_cons (pe_tup (pa_cons pe_str pa_nil)) pa_nil)) pa_nil)))))))) pss_nil)
      (pss_one (ps_ret (pe_ix ix_list (pl_lstL (pla_cons (pl_tup (pla_cons pl_str (pla_cons pl_int (pla_cons pl_int pla_nil)))) (pla_cons (pl_tup (pla_cons pl_str pla_nil)) (pla_cons (pl_tup (pla_cons pl_str (pla_cons pl_str (pla_cons pl_str pla_nil)))) (pla_cons (pl_tup (pla_cons pl_str (pla_cons pl_int (pla_cons pl_int pla_nil)))) pla_nil))))) (pe_call FD hr1 rfl mD GD.kp bD .nil pass0 (pa_cons (pv 0) (pa_cons pe_int pa_nil))) (fun _ _ => rfl)))))), ?_⟩
    refine ⟨_, rfl, p, 6, rfl, hp, by decide, by decide, fun way c z w0 w1 z0 z1 => ?_⟩
    have hG : IsPool (upd H p (poolO c z)) p := IsPool.of z0 z1
    have hn : ∀ b, upd H p (poolO c z) b = none → H b = none := fun b h => (upd_none h).2
    have hs : Same (hid p H) (hid p (upd H p (poolO c z))) := by rw [hid_upd]; exact Same.refl _
    generalize upd H p (poolO c z) = G at hG hn hs ⊢
    refine ⟨_, rfl, _, _, rfl, rfl, _, rfl, ?_⟩
    refine iteB (fun hw => ?_) (fun hw => ?_)
    · refine ⟨_, rfl, _, _, rfl, rfl, _, rfl, ?_⟩
      refine iteB (fun hd => ?_) (fun hd => ?_)
      · have hd0 : (0 : Int) < n := of_decide_eq_true hd
        obtain ⟨k, rfl⟩ : ∃ k, n = k + 1 := ⟨n - 1, by omega⟩
        refine ⟨_, rfl, p, 3, rfl, hG, by decide, by decide, fun cnt c2 z2 n0 n1 y0 y1 => ?_⟩
        have hG2 : IsPool (upd G p (poolO c2 z2)) p := IsPool.of y0 y1
        have hn2 : ∀ b, upd G p (poolO c2 z2) b = none → H b = none := fun b h => hn b (upd_none h).2
        have hs2 : Same (hid p H) (hid p (upd G p (poolO c2 z2))) := by rw [hid_upd]; exact hs
        generalize upd G p (poolO c2 z2) = G2 at hG2 hn2 hs2 ⊢
        clear hn hs hG
        refine ⟨cnt, rfl, by omega, by omega, fun D hD => ?_⟩
        have hDp : D ≠ p := hG2.none hD
        refine lc_it (walk_range (lo := 0) (n := cnt.toNat)) (fun i H' => ∃ (vs : List V) (ds : List PyData), H' D = some (.lst vs) ∧ vs.length = i ∧ IsPool H' p ∧ (∀ b o, b ≠ p → G2 b = some o → H' b = some o) ∧ DqA K (hid D (newOf G2 H')) vs ds ∧ ∀ d ∈ ds, Tr leaves k d) ?_ (fun _ _ _ _ => trivial) ?_ ?_
        · refine ⟨[], [], upd_same, rfl, hG2.up (Same.new' hD), fun b o _ e => (Same.new' hD) b o e, .nil, fun d h => by cases h⟩
        · rintro i x H1 H2 hi ⟨vs, ds, hl, hlen, hp1, hk1, hd1, ht1⟩ ⟨rfl, rfl⟩
          refine ⟨rfl, ?_⟩
          refine ⟨_, rfl, _, rfl, _, _, rfl, rfl, p, k, rfl, (by show [V.ref p, V.int (((k + 1 : Nat) : Int) - 1)] = _; rw [show ((k + 1 : Nat) : Int) - 1 = (k : Int) by omega]), hp1, fun v d H3 htd hs3 hp3 hd3 => ?_⟩
          have hk3 : ∀ b o, b ≠ p → H2 b = some o → H3 b = some o := fun b o hb e => (hid_some (hs3 b o (hid_at e hb))).2
          refine ⟨vs, hk3 _ _ hDp hl, ?_, vs ++ [v], ds ++ [d], upd_same, by simp [hlen], ?_, fun b o hb e => ?_, DqA.app (hd1.up ?_) (.cons (hd3.up ?_) .nil), fun e he => ?_⟩
          · rw [hlen]
            exact Nat.lt_of_lt_of_le (show i < 100 by omega) (by decide)
          · obtain ⟨cc, zz, hh, rest⟩ := hp3
            exact ⟨cc, zz, by rw [upd_ne (Ne.symm hDp)]; exact hh, rest⟩
          · rw [upd_ne (ne_of_none e hD)]
            exact hk3 b o hb (hk1 b o hb e)
          · intro b o e
            obtain ⟨a1, a2⟩ := hid_some e
            obtain ⟨a3, a4⟩ := newOf_some a2
            refine hid_at (newOf_of a3 ?_) a1
            rw [upd_ne a1]
            exact hk3 b o (hG2.none a3) a4
          · intro b o e
            obtain ⟨a3, a4⟩ := newOf_some e
            have a1 : b ≠ D := fun z => by rw [z, hl] at a3; cases a3
            have a5 : G2 b = none := by
              cases e2 : G2 b with
              | none => rfl
              | some u =>
                rw [hk1 b u (hp1.none a3) e2] at a3
                cases a3
            refine hid_at (newOf_of a5 ?_) a1
            rw [upd_ne a1]
            exact a4
          · rcases List.mem_append.mp he with he | he
            · exact ht1 e he
            · cases List.mem_singleton.mp he
              exact htd
        · rintro H1 ⟨vs, ds, hl, hlen, hp1, hk1, hd1, ht1⟩
          have hlen2 : ds.length ≤ 2 := by
            have := hd1.len
            omega
          have hs1 : Same (hid p H) (hid p H1) := fun b o e => by
            obtain ⟨a1, a2⟩ := hid_some (hs2 b o e)
            exact hid_at (hk1 b o a1 a2) a1
          have hX : ∀ b o, hid D (newOf G2 H1) b = some o → H b = none ∧ H1 b = some o := fun b o e => by
            obtain ⟨a1, a2⟩ := hid_some e
            obtain ⟨a3, a4⟩ := newOf_some a2
            exact ⟨hn2 b a3, a4⟩
          have hback : ∀ b, H1 b = none → H b = none := fun b e => hn2 b (by
            cases e2 : G2 b with
            | none => rfl
            | some u =>
              rw [hk1 b u (hp1.none e) e2] at e
              cases e)
          refine .inl ⟨D, _, rfl, SqL.of hl, fun a ha => ?_⟩
          have u1 : Same H1 (upd H1 a (.tup vs)) := Same.new' ha
          have hb : Dq K (newOf H (upd H1 a (.tup vs))) (.ref a) (.tuple ds) := .tup (SqT.of (newOf_of (hback a ha) upd_same)) (hd1.up (new_sub fun b o e => ⟨(hX b o e).1, u1 b o (hX b o e).2⟩))
          refine ⟨_, rfl, _, _, rfl, rfl, _, rfl, ?_⟩
          refine iteB (fun hw5 => ?_) (fun hw5 => ?_)
          · refine ⟨_, rfl, (by show 2 ≤ sizeLine; decide), fun t ht => ?_⟩
            have u2 : Same (upd H1 a (.tup vs)) (upd (upd H1 a (.tup vs)) t (.tup [.str "maybe", .ref a])) := Same.new' ht
            refine q _ (.tuple (.str "maybe" :: [ds].map PyData.tuple)) _ (.inr ⟨"maybe", [ds], .inl ⟨rfl, rfl⟩, rfl, fun b hb => ?_⟩) (hs1.trans (hid_same (u1.trans u2))) (hp1.up (u1.trans u2)) ?_
            · cases List.mem_singleton.mp hb
              exact ⟨hlen2, ht1⟩
            · exact .tup (SqT.of (newOf_of (hback t (u1.free ht)) upd_same)) (.cons (.str "maybe" (by decide)) (.cons (hb.up (newOf_right u2)) .nil))
          · refine ⟨_, rfl, (by show 1 ≤ sizeLine; decide), fun r1 hr1' => ⟨(by show 1 ≤ sizeLine; decide), fun r2 hr2' => ⟨(by show 3 ≤ sizeLine; decide), fun t ht => ?_⟩⟩⟩
            have u2 : Same (upd H1 a (.tup vs)) (upd (upd H1 a (.tup vs)) r1 (.tup [.str "risk"])) := Same.new' hr1'
            have hb2 : Dq K (newOf H (upd (upd H1 a (.tup vs)) r1 (.tup [.str "risk"]))) (.ref r1) (.tuple [.str "risk"]) := .tup (SqT.of (newOf_of (hback r1 (u1.free hr1')) upd_same)) (.cons (.str "risk" (by decide)) .nil)
            have u12 := u1.trans u2
            have hb1 := hb.up (newOf_right u2)
            generalize upd (upd H1 a (.tup vs)) r1 (.tup [.str "risk"]) = J1 at u12 hb2 hb1 hr2' ht ⊢
            have u3 : Same J1 (upd J1 r2 (.tup [.ref r1])) := Same.new' hr2'
            have hb3 : Dq K (newOf H (upd J1 r2 (.tup [.ref r1]))) (.ref r2) (.tuple [.tuple [.str "risk"]]) := .tup (SqT.of (newOf_of (hback r2 (u12.free hr2')) upd_same)) (.cons (hb2.up (newOf_right u3)) .nil)
            have u13 := u12.trans u3
            have hb4 := hb1.up (newOf_right u3)
            generalize upd J1 r2 (.tup [.ref r1]) = J2 at u13 hb3 hb4 ht ⊢
            have u4 : Same J2 (upd J2 t (.tup [.str "both", .ref a, .ref r2])) := Same.new' ht
            refine q _ (.tuple (.str "both" :: [ds, [.tuple [.str "risk"]]].map PyData.tuple)) _ (.inr ⟨"both", [ds, [.tuple [.str "risk"]]], .inr ⟨rfl, rfl⟩, rfl, fun b hb => ?_⟩) (hs1.trans (hid_same (u13.trans u4))) (hp1.up (u13.trans u4)) ?_
            · rcases List.mem_cons.mp hb with rfl | hb
              · exact ⟨hlen2, ht1⟩
              · cases List.mem_singleton.mp hb
                exact ⟨by decide, fun x hx => by cases List.mem_singleton.mp hx; exact Tr.leaf (by unfold leaves; simp) k⟩
            · exact .tup (SqT.of (newOf_of (hback t (u13.free ht)) upd_same)) (.cons (.str "both" (by decide)) (.cons (hb4.up (newOf_right u4)) (.cons (hb3.up (newOf_right u4)) .nil)))
      · exact leaf_run rfl hG hn hs fun v d G' h1 h2 h3 h4 => q v d G' (Tr.leaf h1 n) h2 h3 h4
    · exact leaf_run rfl hG hn hs fun v d G' h1 h2 h3 h4 => q v d G' (Tr.leaf h1 n) h2 h3 h4
end
end K07
namespace K07
open PySem PySem.Spec PyProof.Rows L2
abbrev s_law_first : Stmt := top 56
/-! ### the number of the first part that is wrong -/
def optI : Option Int → V | none => .non | some i => .int i
theorem tr_head : ∀ {n : Nat} {d : PyData}, Tr leaves n d → Headed d := by
  have hl : ∀ d ∈ leaves, Headed d := by
    intro d h
    unfold leaves at h
    simp only [List.mem_cons, List.not_mem_nil, or_false] at h
    rcases h with rfl | rfl | rfl | rfl <;> exact ⟨_, _, rfl⟩
  intro n d h
  cases n with
  | zero => exact hl d h
  | succ n =>
    rcases h with h | ⟨z, bs, _, rfl, _⟩
    · exact hl d h
    · exact ⟨_, _, rfl⟩
theorem head_ix {K : PySem.W.Frag} {N : Hp} {x : V} {d : PyData} (h : Dq K N x d) (hh : Headed d) : ∃ a xs z ds, x = .ref a ∧ d = .tuple (.str z :: ds) ∧ SqT K N a (.str z :: xs) ∧ DqA K N xs ds := by
  obtain ⟨z, ds, rfl⟩ := hh
  cases h with
  | @tup a xs _ hsq ha =>
    cases ha with
    | @cons _ xs _ _ h0 hr0 =>
      cases h0
      exact ⟨a, xs, z, ds, rfl, rfl, hsq, hr0⟩
theorem inner_run {K : PySem.W.Frag} {σ : L2.St} {j : Nat} {v : V} {d : PyData} {N H : Hp} {Q : VK} (ej : σ[j]? = some (some v)) (sN : Same N H) (hd : Dq K N v d) (hh : Headed d) (q : ∀ a ys H', Same H H' → H a = none → H' a = some (.tup ys) → DqA K N ys (innerW d) → Q (.ref a) H') :
    tIf (tTest (tOp (rIn K false) (tOp (rIxT K) (tVar j) (tC (.int 0))) (tTup (tCons (tC (.str "maybe")) (tCons (tC (.str "both")) tNil))))) (tSl (rSlT K) (tVar j) (tPart (tC (.int 1))) tNoPart) (tTup tNil) σ H Q := by
  obtain ⟨a, xs, z, ds, rfl, rfl, hsq, hr0⟩ := head_ix hd hh
  refine ⟨_, ej, a, _, 0, _, rfl, rfl, SqT.upT sN hsq, at0, (by show 2 ≤ sizeLine; decide), fun p hp => ⟨p, _, rfl, .inr (SqT.of upd_same), rfl, (by decide), _, rfl, ?_⟩⟩
  rw [in_two]
  have s1 : Same H (upd H p (.tup [.str "maybe", .str "both"])) := Same.new' hp
  have hsq1 := SqT.upT (sN.trans s1) hsq
  generalize upd H p (.tup [.str "maybe", .str "both"]) = H1 at s1 hsq1 ⊢
  by_cases hz : z = "maybe" ∨ z = "both"
  · rw [inner_yes hz] at q
    refine iteY hz ⟨_, ej, 1, rfl, a, _, rfl, hsq1, sIx_one (by show 1 ≤ (V.str z :: xs).length; simp), fun p2 hp2 => ?_⟩
    rw [cut_one]
    exact q _ _ _ (s1.trans (Same.new' hp2)) (s1.free hp2) upd_same hr0
  · rw [inner_no hz] at q
    exact iteN hz ⟨(by show 0 ≤ sizeLine; decide), fun p2 hp2 => q _ _ _ (s1.trans (Same.new' hp2)) (s1.free hp2) upd_same .nil⟩
theorem same_kept {N H H' : Hp} {c : Addr} (sN : Same N H) (hc : N c = none) (k : ∀ b o, b ≠ c → H b = some o → H' b = some o) : Same N H' := fun b o e => k b o (ne_of_none e hc) (sN b o e)
def spFirst (K : PySem.W.Frag) (n : Nat) : Sp := fun vs H Q _ => ∃ (m : Nat) (v : V) (ds : List PyData) (at_ dep k : Int) (c : Addr) (N : Hp), n = m + 1 ∧ vs = [v, .int at_, .int dep, .ref c] ∧ dep = 2 - (m : Int) ∧ 0 ≤ dep ∧ Same N H ∧ N c = none ∧ Dq K N v (.tuple ds) ∧ (∀ d ∈ ds, Tr leaves (m + 1) d) ∧ H c = some (.lst [.int k]) ∧
  ∀ H' k', (∀ b o, b ≠ c → H b = some o → H' b = some o) → H' c = some (.lst [.int k']) → ((fir n at_ ds dep k).1 = none → k' = (fir n at_ ds dep k).2) → Q (optI (fir n at_ ds dep k).1) H'
theorem first_inner {K : PySem.W.Frag} {n : Nat} {D : Ends} {a0 x nu : V} {at_ dep k : Int} {c : Addr} {o6 o7 : Option V} {N H : Hp} {d : PyData} (sN : Same N H) (hNc : N c = none) (hxd : Dq K N x d) (htd : Tr leaves (n + 1) d) (hnd : bbW d = true → dep ≠ 2) (ed : dep = 2 - (n : Int)) (d0 : 0 ≤ dep) (hc : H c = some (.lst [.int k]))
    (qr : ∀ i H' k', (firI (fun xs j => fir n at_ xs (dep + 1) j) (innerW d) k).1 = some i → (∀ b o, b ≠ c → H b = some o → H' b = some o) → H' c = some (.lst [.int k']) → D.rt (.int i) H')
    (qn : ∀ H' o6 o7, (firI (fun xs j => fir n at_ xs (dep + 1) j) (innerW d) k).1 = none → (∀ b o, b ≠ c → H b = some o → H' b = some o) → H' c = some (.lst [.int (firI (fun xs j => fir n at_ xs (dep + 1) j) (innerW d) k).2]) → D.nx [some a0, some (.int at_), some (.int dep), some (.ref c), some x, some nu, o6, o7] H') :
    tFor (iTup K (tIf (tTest (tOp (rIn K false) (tOp (rIxT K) (tVar 4) (tC (.int 0))) (tTup (tCons (tC (.str "maybe")) (tCons (tC (.str "both")) tNil))))) (tSl (rSlT K) (tVar 4) (tPart (tC (.int 1))) tNoPart) (tTup tNil))) (gName 6)
      (tSeq (tAsg (tCall (spFirst K n) [] E0 (tCons (tVar 6) (tCons (tVar 1) (tCons (tOp (rI0 fun i j => V.int (i + j)) (tVar 2) (tC (.int 1))) (tCons (tVar 3) tNil))))) (gName 7)) (tIfS (tB (tNotN (tVar 7))) (tRet (tVar 7)) tNext)) D [some a0, some (.int at_), some (.int dep), some (.ref c), some x, some nu, o6, o7] H := by
  refine inner_run rfl sN hxd (tr_head htd) fun t ys H1 s1 ht1 ht2 hys => ⟨t, rfl, ⟨_, SqT.of ht2⟩, ?_⟩
  have htc : t ≠ c := fun e => by rw [e, hc] at ht1; cases ht1
  have ely : ys.length = (innerW d).length := hys.len
  refine for_tup (xs := ys) (fun i σ H' => ∃ k' o6 o7, σ = [some a0, some (.int at_), some (.int dep), some (.ref c), some x, some nu, o6, o7] ∧ (∀ b o, b ≠ c → H1 b = some o → H' b = some o) ∧ H' c = some (.lst [.int k']) ∧
      firI (fun xs j => fir n at_ xs (dep + 1) j) (innerW d) k = firI (fun xs j => fir n at_ xs (dep + 1) j) ((innerW d).drop i) k')
    ⟨k, _, _, rfl, (fun b o _ e => e), s1 _ _ hc, rfl⟩ (fun i σ H' _ hP => by obtain ⟨_, _, _, _, kk, _⟩ := hP; exact SqT.of (kk _ _ htc ht2)) (fun i y σ H' hy hP => ?_) (fun σ H' hP => ?_)
  · obtain ⟨k', o6, o7, rfl, kH, hc', hE⟩ := hP
    obtain ⟨b, hbi, hyb⟩ := hys.at hy
    have hil : i < (innerW d).length := (List.getElem?_eq_some_iff.mp hbi).1
    have edr : (innerW d).drop i = b :: (innerW d).drop (i + 1) := by
      rw [List.drop_eq_getElem_cons hil, (List.getElem?_eq_some_iff.mp hbi).2]
    rw [edr, firI] at hE
    have hbm := List.mem_of_getElem? hbi
    obtain ⟨z, bs, hz, rfl, hbs⟩ : ∃ z bs, Zb z bs ∧ d = .tuple (.str z :: bs.map PyData.tuple) ∧ ∀ b ∈ bs, b.length ≤ 2 ∧ ∀ x ∈ b, Tr leaves n x := by
      rcases htd with hl | h
      · rw [(leaf_inner d hl).1] at hbm; cases hbm
      · exact h
    rw [blk_inner hz] at hbm
    obtain ⟨b', hb', rfl⟩ := List.mem_map.mp hbm
    have hd2 := hnd (bb_blk hz)
    obtain ⟨m, rfl⟩ : ∃ m, n = m + 1 := ⟨n - 1, by omega⟩
    have kH0 : ∀ b o, b ≠ c → H b = some o → H' b = some o := fun b o hb e => kH b o hb (s1 b o e)
    refine ⟨_, rfl, _, rfl, _, rfl, _, _, rfl, rfl, _, rfl, m, y, b', at_, dep + 1, k', c, N, rfl, rfl, by omega, by omega, same_kept sN hNc kH0, hNc, hyb, (hbs b' hb').2, hc', fun H2 k2 kH2 hc2 e2 => ?_⟩
    have kH3 : ∀ b o, b ≠ c → H b = some o → H2 b = some o := fun b o hb e => kH2 b o hb (kH0 b o hb e)
    have ee : elems (.tuple b') = b' := rfl
    rw [ee] at hE
    refine ⟨_, rfl, _, rfl, ?_⟩
    cases e : (fir (m + 1) at_ b' (dep + 1) k').1 with
    | some i' =>
      rw [e] at hE
      simp only [Option.isSome, if_true] at hE
      refine iteNN (by intro z; cases z) ⟨_, rfl, qr i' H2 k2 ?_ kH3 hc2⟩
      rw [hE]
      exact e
    | none =>
      rw [e] at hE
      simp only [Option.isSome] at hE
      refine iteNY rfl ⟨k2, _, _, rfl, fun b o hb e' => kH2 b o hb (kH b o hb e'), hc2, ?_⟩
      rw [hE, e2 e]
      rfl
  · obtain ⟨k', o6, o7, rfl, kH, hc', hE⟩ := hP
    rw [ely, List.drop_length, firI] at hE
    refine qn H' o6 o7 (by rw [hE]) (fun b o hb e => kH b o hb (s1 b o e)) ?_
    rw [hE]
    exact hc'
section
variable {P : Program} {w : World} {K : PySem.W.Frag} {mg : Str → Option Value} {base : Heap} {f g : Addr} {fd gd : FuncData} {CX : CXT}
theorem sc_law_first : FnScope ["_law_block", "_law_at", "_law_depth", "_law_count", "_law_part", "_law_number", "_law_inner", "_law_found"] ["_law_block", "_law_at", "_law_depth", "_law_count"] (defScope s_law_first) := ⟨rfl, rfl, rfl, by decide +kernel, rfl, by decide +kernel, by decide +kernel⟩
theorem ok_first0 {k : Nat} : FnOk P w K mg base CX0 k f fd ["_law_block", "_law_at", "_law_depth", "_law_count"] (spFirst K 0) :=
  ⟨fun vs H Q E h => (by obtain ⟨_, _, _, _, _, _, _, _, e, _⟩ := h; cases e), fun A o s H a us vs Q E hr e0 hb rv h => (by obtain ⟨_, _, _, _, _, _, _, _, e, _⟩ := h; cases e)⟩
theorem ok_first {n : Nat} (GT : FnP K "_law_first" s_law_first f fd) (mT : mg "_law_first" = some (.ref f))
    (FR : FnOk P w K mg base CX0 (n + 1) f fd ["_law_block", "_law_at", "_law_depth", "_law_count"] (spFirst K n)) : FnOk P w K mg base CX0 (n + 2) f fd ["_law_block", "_law_at", "_law_depth", "_law_count"] (spFirst K (n + 1)) := by
  have bT : Binds K fd ["_law_block", "_law_at", "_law_depth", "_law_count"] [] := GT.bindsN fun _ _ _ _ _ _ us hl => match us, hl with | [_, _, _, _], _ => rfl
  refine GT.ok sc_law_first (fun vs H Q E h => ?_) (fun cdv A outer s H vs Q E hr h => ?_)
  · obtain ⟨_, _, _, _, _, _, _, _, _, rfl, _⟩ := h
    rfl
  · obtain ⟨m, v, ds, at_, dep, k, c, N, em, rfl, ed, d0, sN, hNc, hv, hT, hc, q⟩ := h
    cases Nat.succ.inj em
    refine ⟨_, PSs.nox (pss_cons (ps_for PassesOwn.never rfl (pi_tup (pv 0)) (pg_name (i := 4) sc_law_first.nd rfl (Or.inl rfl))
        (pss_cons (ps_set (i := 5) sc_law_first.nd rfl (Or.inl rfl) (pe_ix ix_list (pv 3) pe_int (fun _ _ => rfl)))
      (pss_cons (ps_asg (pe_op op_add (pv 5) pe_int) (pg_sub (pv 3) pe_int set_list))
      (pss_cons (ps_if (PW.pt (pw_or (pt_cmpR op_eq (pv 5) (pv 1) (nomark _)) (pw_or (pt_cmpR op_eq (pv 5) pe_int (nomark _)) (pw_or1 (PW.pt (pw_and (pt_cmpR op_in_seq (pe_ix ix_tup (pv 4) pe_int (fun _ _ => rfl)) (pe_tup (pa_cons pe_str (pa_cons pe_str pa_nil))) (by rfl)) (pw_and1 (pt_cmpR op_eq (pv 2) pe_int (nomark _))))))))) (pss_one (ps_ret (pv 5))) pss_nil)
      (pss_one (ps_for PassesOwn.never rfl (pi_tup (pe_ifExp (pt_cmpR op_in_seq (pe_ix ix_tup (pv 4) pe_int (fun _ _ => rfl)) (pe_tup (pa_cons pe_str (pa_cons pe_str pa_nil))) (by rfl)) (pe_slice sl_tup (pv 4) (po_some pe_int) po_none) (pe_tup pa_nil))) (pg_name (i := 6) sc_law_first.nd rfl (Or.inl rfl))
        (pss_cons (ps_set (i := 7) sc_law_first.nd rfl (Or.inl rfl) (pe_call FR hr rfl mT GT.kp bT .nil pass0 (pa_cons (pv 6) (pa_cons (pv 1) (pa_cons (pe_op op_add (pv 2) pe_int) (pa_cons (pv 3) pa_nil))))))
      (pss_one (ps_if (pt_cmp (pc_notN (pv 7))) (pss_one (ps_ret (pv 7))) pss_nil)))))))))
      (pss_one (ps_ret pe_non))), ?_⟩
    cases hv with
    | @tup a xs _ hsq ha =>
      refine ⟨_, rfl, a, rfl, ⟨_, SqT.upT sN hsq⟩, ?_⟩
      have elx : xs.length = ds.length := ha.len
      refine for_tup (xs := xs) (fun i σ H' => ∃ k' o4 o5 o6 o7, σ = [some (.ref a), some (.int at_), some (.int dep), some (.ref c), o4, o5, o6, o7] ∧ (∀ b o, b ≠ c → H b = some o → H' b = some o) ∧ H' c = some (.lst [.int k']) ∧
          fir (n + 1) at_ ds dep k = firL (fun xs j => fir n at_ xs (dep + 1) j) at_ dep (ds.drop i) k')
        ⟨k, _, _, _, _, rfl, (fun b o _ e => e), hc, rfl⟩ (fun i σ H' _ hP => by obtain ⟨_, _, _, _, _, _, kk, _⟩ := hP; exact SqT.upT (same_kept sN hNc kk) hsq) (fun i x σ H' hx hP => ?_) (fun σ H' hP => ?_)
      · obtain ⟨k', o4, o5, o6, o7, rfl, kH, hc', hE⟩ := hP
        obtain ⟨d, hdi, hxd⟩ := ha.at hx
        have hil : i < ds.length := (List.getElem?_eq_some_iff.mp hdi).1
        have edr : ds.drop i = d :: ds.drop (i + 1) := by
          rw [List.drop_eq_getElem_cons hil, (List.getElem?_eq_some_iff.mp hdi).2]
        rw [edr, firL] at hE
        have htd := hT d (List.mem_of_getElem? hdi)
        refine ⟨_, rfl, c, _, 0, _, rfl, rfl, SqL.of hc', rfl, ?_⟩
        refine ⟨_, rfl, _, _, rfl, rfl, _, rfl, c, _, 0, 0, rfl, rfl, hc', rfl, ?_⟩
        have hc2 : upd H' c (.lst ([V.int k'].set 0 (.int (k' + 1)))) c = some (.lst [.int (k' + 1)]) := upd_same
        have kH2 : ∀ b o, b ≠ c → H b = some o → upd H' c (.lst ([V.int k'].set 0 (.int (k' + 1)))) b = some o := fun b o hb e => by rw [upd_ne hb]; exact kH b o hb e
        generalize upd H' c (.lst ([V.int k'].set 0 (.int (k' + 1)))) = H2 at hc2 kH2 ⊢
        have ret : (k' = at_ ∨ k' = 12 ∨ (bbW d = true ∧ dep = 2)) → ∀ H3, Same H2 H3 → Q (.int k') H3 := fun hcnd H3 s3 => by
          have w := q H3 (k' + 1) (fun b o hb e => s3 b o (kH2 b o hb e)) (s3 _ _ hc2) (fun z => by rw [hE, if_pos hcnd] at z; cases z)
          rw [hE, if_pos hcnd] at w
          exact w
        refine ⟨_, rfl, _, rfl, rfl, _, rfl, ?_⟩
        refine iteB (fun h1 => ⟨_, rfl, ret (.inl (by have := of_decide_eq_true h1; injection this)) _ (Same.refl _)⟩) (fun h1 => ?_)
        have n1 : k' ≠ at_ := fun e => of_decide_eq_false h1 (by rw [e])
        refine ⟨_, rfl, rfl, _, rfl, ?_⟩
        refine iteB (fun h2 => ⟨_, rfl, ret (.inr (.inl (by have := of_decide_eq_true h2; injection this))) _ (Same.refl _)⟩) (fun h2 => ?_)
        have n2 : k' ≠ 12 := fun e => of_decide_eq_false h2 (by rw [e])
        have sN2 : Same N H2 := same_kept sN hNc kH2
        obtain ⟨pa, ys, z, es, rfl, rfl, hsq2, hys⟩ := head_ix hxd (tr_head htd)
        have hbb : bbW (.tuple (.str z :: es)) = decide (z = "maybe" ∨ z = "both") := rfl
        refine ⟨_, rfl, pa, _, 0, _, rfl, rfl, SqT.upT sN2 hsq2, at0, (by show 2 ≤ sizeLine; decide), fun t ht => ⟨t, _, rfl, .inr (SqT.of upd_same), rfl, (by decide), _, rfl, ?_⟩⟩
        rw [in_two]
        have s3 : Same H2 (upd H2 t (.tup [.str "maybe", .str "both"])) := Same.new' ht
        generalize upd H2 t (.tup [.str "maybe", .str "both"]) = H3 at s3 ⊢
        have kH3 : ∀ b o, b ≠ c → H b = some o → H3 b = some o := fun b o hb e => s3 b o (kH2 b o hb e)
        have hc3 := s3 _ _ hc2
        by_cases hz : z = "maybe" ∨ z = "both"
        · refine iteY hz ⟨_, rfl, rfl, _, rfl, ?_⟩
          refine iteB (fun h3 => ⟨_, rfl, ret (.inr (.inr ⟨decide_eq_true hz, by have := of_decide_eq_true h3; injection this⟩)) _ s3⟩) (fun h3 => ?_)
          have n3 : dep ≠ 2 := fun e => of_decide_eq_false h3 (by rw [e])
          have hcn : ¬ (k' = at_ ∨ k' = 12 ∨ (bbW (.tuple (.str z :: es)) = true ∧ dep = 2)) := by intro e; rcases e with e | e | e; exact n1 e; exact n2 e; exact n3 e.2
          exact first_inner (K := K) (n := n) (a0 := .ref a) (x := .ref pa) (nu := .int k') (at_ := at_) (dep := dep) (k := k' + 1) (c := c) (H := H3) (d := .tuple (.str z :: es)) (same_kept sN hNc kH3) hNc hxd htd (fun h e => hcn (.inr (.inr ⟨h, e⟩))) ed d0 hc3
            (fun i' H4 k4 e4 kH4 hc4 => by
              have w := q H4 k4 (fun b o hb e => kH4 b o hb (kH3 b o hb e)) hc4 (fun z' => by
                rw [hE, if_neg hcn, e4] at z'
                simp only [Option.isSome, if_true] at z'
                rw [e4] at z'
                cases z')
              rw [hE, if_neg hcn, e4] at w
              simp only [Option.isSome, if_true] at w
              rw [e4] at w
              exact w)
            (fun H4 o6 o7 e4 kH4 hc4 => by
              refine ⟨_, _, _, _, _, rfl, fun b o hb e => kH4 b o hb (kH3 b o hb e), hc4, ?_⟩
              rw [hE, if_neg hcn, e4]
              simp only [Option.isSome]
              rfl)
        · refine iteN hz ?_
          have hcn : ¬ (k' = at_ ∨ k' = 12 ∨ (bbW (.tuple (.str z :: es)) = true ∧ dep = 2)) := by intro e; rcases e with e | e | e; exact n1 e; exact n2 e; exact hz (of_decide_eq_true e.1)
          exact first_inner (K := K) (n := n) (a0 := .ref a) (x := .ref pa) (nu := .int k') (at_ := at_) (dep := dep) (k := k' + 1) (c := c) (H := H3) (d := .tuple (.str z :: es)) (same_kept sN hNc kH3) hNc hxd htd (fun h e => hcn (.inr (.inr ⟨h, e⟩))) ed d0 hc3
            (fun i' H4 k4 e4 kH4 hc4 => by
              have w := q H4 k4 (fun b o hb e => kH4 b o hb (kH3 b o hb e)) hc4 (fun z' => by
                rw [hE, if_neg hcn, e4] at z'
                simp only [Option.isSome, if_true] at z'
                rw [e4] at z'
                cases z')
              rw [hE, if_neg hcn, e4] at w
              simp only [Option.isSome, if_true] at w
              rw [e4] at w
              exact w)
            (fun H4 o6 o7 e4 kH4 hc4 => by
              refine ⟨_, _, _, _, _, rfl, fun b o hb e => kH4 b o hb (kH3 b o hb e), hc4, ?_⟩
              rw [hE, if_neg hcn, e4]
              simp only [Option.isSome]
              rfl)
      · obtain ⟨k', o4, o5, o6, o7, rfl, kH, hc', hE⟩ := hP
        rw [elx, List.drop_length, firL] at hE
        have w := q H' k' kH hc' (fun _ => by rw [hE])
        rw [hE] at w
        exact w
end
end K07
namespace K07
open PySem PySem.Spec PyProof.Rows L2
abbrev s_law_many : Stmt := top 57
/-! ### how many parts there are -/
def spMany (K : PySem.W.Frag) (n : Nat) : Sp := fun vs H Q _ => ∃ (m : Nat) (v : V) (ds : List PyData) (N : Hp), n = m + 1 ∧ vs = [v] ∧ Same N H ∧ Dq K N v (.tuple ds) ∧ ds.length ≤ 6 ∧ (∀ d ∈ ds, Tr leaves m d) ∧ ∀ H', Same H H' → Q (.int (man n ds)) H'
def teMany (K : PySem.W.Frag) (n : Nat) : TE := tIf (tTest (tOp (rIn K false) (tOp (rIxT K) (tVar 1) (tC (.int 0))) (tTup (tCons (tC (.str "maybe")) (tCons (tC (.str "both")) tNil))))) (tOp (rI0 fun i j => .int (i + j)) (tC (.int 1)) (tCB (rSum K) (tCons (tLc (iTup K (tSl (rSlT K) (tVar 1) (tPart (tC (.int 1))) tNoPart)) (gName 2) tYes (tCall (spMany K n) [] E0 (tCons (tVar 2) tNil)) [2]) tNil))) (tC (.int 1))
theorem te_many {K : PySem.W.Frag} {n : Nat} {a0 o2 : Option V} {x : V} {d : PyData} {N H : Hp} {Q : VK} (sN : Same N H) (hxd : Dq K N x d) (htd : Tr leaves n d) (q : ∀ H', Same H H' → Q (.int (1 + ((innerW d).map fun b => man n (elems b)).sum)) H') : teMany K n [a0, some x, o2] H Q := by
  obtain ⟨a, xs, z, ds, rfl, rfl, hsq, hr0⟩ := head_ix hxd (tr_head htd)
  refine ⟨_, rfl, a, _, 0, _, rfl, rfl, SqT.upT sN hsq, at0, (by show 2 ≤ sizeLine; decide), fun p hp => ⟨p, _, rfl, .inr (SqT.of upd_same), rfl, (by decide), _, rfl, ?_⟩⟩
  rw [in_two]
  have s1 : Same H (upd H p (.tup [.str "maybe", .str "both"])) := Same.new' hp
  have hsq1 := SqT.upT (sN.trans s1) hsq
  generalize upd H p (.tup [.str "maybe", .str "both"]) = H1 at s1 hsq1 ⊢
  by_cases hz : z = "maybe" ∨ z = "both"
  · rw [inner_yes hz] at q
    have hbs : ∃ m, n = m + 1 ∧ ∀ b ∈ ds, ∃ c, b = .tuple c ∧ c.length ≤ 2 ∧ ∀ x ∈ c, Tr leaves m x := by
      cases n with
      | zero =>
        have := (leaf_inner _ htd).2.1
        rw [show bbW (.tuple (.str z :: ds)) = true from decide_eq_true hz] at this
        cases this
      | succ m =>
        rcases htd with hl | ⟨z', bs, hz', e, hb⟩
        · have := (leaf_inner _ hl).2.1
          rw [show bbW (.tuple (.str z :: ds)) = true from decide_eq_true hz] at this
          cases this
        · injection e with e
          injection e with e1 e2
          refine ⟨m, rfl, fun b hb' => ?_⟩
          rw [e2] at hb'
          obtain ⟨c, hc, rfl⟩ := List.mem_map.mp hb'
          exact ⟨c, rfl, hb c hc⟩
    obtain ⟨m, rfl, hbs⟩ := hbs
    have el := hr0.len
    have dl : ds.length ≤ 3 := by
      rcases htd with hl | ⟨z', bs, hz', e, hb⟩
      · have := (leaf_inner _ hl).2.1
        rw [show bbW (.tuple (.str z :: ds)) = true from decide_eq_true hz] at this
        cases this
      · injection e with e
        injection e with e1 e2
        rw [e2, List.length_map]
        rcases hz' with ⟨_, h⟩ | ⟨_, h⟩ <;> omega
    refine iteY hz ⟨_, rfl, 1, rfl, a, _, rfl, hsq1, sIx_one (by show 1 ≤ (V.str z :: xs).length; simp), fun p2 hp2 => ?_⟩
    rw [cut_one]
    have s2 : Same H1 (upd H1 p2 (.tup xs)) := Same.new' hp2
    have hp2' : upd H1 p2 (.tup xs) p2 = some (.tup xs) := upd_same
    generalize upd H1 p2 (.tup xs) = H2 at s2 hp2' ⊢
    refine ⟨p2, rfl, ⟨_, SqT.of hp2'⟩, fun D hD => ?_⟩
    refine lc_same walk_tup (ds.map fun e => V.int (man (m + 1) (elems e))) (by rw [List.length_map, el]) (by rw [el]; exact Nat.le_trans dl (by decide)) hD (fun H' s' => SqT.of (s' _ _ hp2')) (fun _ => rfl) (fun i y H' Q' hi hy s' k => ?_) (fun H' s' hD' => ?_)
    · obtain ⟨e, he, hye⟩ := hr0.at hy
      obtain ⟨c, rfl, c1, c2⟩ := hbs e (List.mem_of_getElem? he)
      refine ⟨_, rfl, m, y, c, N, rfl, rfl, sN.trans (s1.trans (s2.trans s')), hye, by omega, c2, fun H'' s'' => k _ _ ?_ s''⟩
      rw [List.getElem?_map, he]
      rfl
    · refine ⟨D, ds.map fun e => man (m + 1) (elems e), rfl, SqL.of (by rw [hD', List.map_map]; rfl), _, _, rfl, rfl, ?_⟩
      exact q _ (s1.trans (s2.trans s'))
  · rw [inner_no hz] at q
    exact iteN hz (q _ s1)
section
variable {P : Program} {w : World} {K : PySem.W.Frag} {mg : Str → Option Value} {base : Heap} {f g : Addr} {fd gd : FuncData} {CX : CXT}
theorem sc_law_many : FnScope ["_law_block", "_law_part", "_law_inner"] ["_law_block"] (defScope s_law_many) := ⟨rfl, rfl, rfl, by decide +kernel, rfl, by decide +kernel, by decide +kernel⟩
theorem ok_many0 {k : Nat} : FnOk P w K mg base CX0 k f fd ["_law_block"] (spMany K 0) :=
  ⟨fun vs H Q E h => (by obtain ⟨_, _, _, _, e, _⟩ := h; cases e), fun A o s H a us vs Q E hr e0 hb rv h => (by obtain ⟨_, _, _, _, e, _⟩ := h; cases e)⟩
theorem ok_many {n : Nat} (GT : FnP K "_law_many" s_law_many f fd) (mT : mg "_law_many" = some (.ref f)) (msum : mg "sum" = none)
    (FR : FnOk P w K mg base CX0 (n + 1) f fd ["_law_block"] (spMany K n)) : FnOk P w K mg base CX0 (n + 2) f fd ["_law_block"] (spMany K (n + 1)) := by
  have bT : Binds K fd ["_law_block"] [] := GT.bindsN fun _ _ _ _ _ _ us hl => match us, hl with | [_], _ => rfl
  refine GT.ok sc_law_many (fun vs H Q E h => ?_) (fun cdv A outer s H vs Q E hr h => ?_)
  · obtain ⟨_, _, _, _, _, rfl, _⟩ := h
    rfl
  · obtain ⟨m, v, ds, N, em, rfl, sN, hv, hl, hT, q⟩ := h
    cases Nat.succ.inj em
    refine ⟨_, (pss_one (ps_ret (pe_callB (cr_sum rfl) rfl msum boot_sum' (pa_cons (pe_lc (own := [("_law_part", 1)]) (g := gName 1) (tt := tYes) (te := teMany K n) rfl sc_law_many.nd (pi_tup (pv 0)) (blkOk_by (N := ["_law_block", "_law_part", "_law_inner"]) (sc := defScope s_law_many) (by decide +kernel)) (fun _ _ _ _ _ => pg_name (i := 1) sc_law_many.nd rfl (Or.inl rfl)) (fun _ _ _ _ _ => pts_nil) (fun _ _ _ _ _ => (by exact (pe_ifExp (pt_cmpR op_in_seq (pe_ix ix_tup (pv 1) pe_int (fun _ _ => rfl)) (pe_tup (pa_cons pe_str (pa_cons pe_str pa_nil))) (by rfl)) (pe_op op_add pe_int (pe_callB (id := "sum") (r := rSum K) (by exact cr_sum rfl) rfl msum boot_sum' (pa_cons (by exact (pe_lc (own := [("_law_inner", 2)]) (g := gName 2) (tt := tYes) rfl sc_law_many.nd (pi_tup (pe_slice sl_tup (pv 1) (po_some pe_int) po_none)) (blkOk_by (N := ["_law_block", "_law_part", "_law_inner"]) (sc := { kind := .function, names := [(".0", .local), ("_law_part", .local), ("sum", .globalImplicit)], isGenerator := false, isCoroutine := false }) (by decide +kernel)) (fun _ _ _ _ _ => pg_name (i := 2) sc_law_many.nd rfl (Or.inl rfl)) (fun _ _ _ _ _ => pts_nil) (fun _ _ _ _ _ => (pe_call FR hr rfl mT GT.kp bT .nil pass0 (pa_cons (pv 2) pa_nil))))) pa_nil))) pe_int)))) pa_nil)))), ?_⟩
    cases hv with
    | @tup a xs _ hsq ha =>
      have el := ha.len
      refine ⟨_, rfl, a, rfl, ⟨_, SqT.upT sN hsq⟩, fun D hD => ?_⟩
      refine lc_same walk_tup (ds.map fun d => V.int (1 + ((innerW d).map fun b => man n (elems b)).sum)) (by rw [List.length_map, el]) (by rw [el]; exact Nat.le_trans hl (by decide)) hD (fun H' s' => SqT.upT (sN.trans s') hsq) (fun _ => rfl) (fun i y H' Q' hi hy s' k => ?_) (fun H' s' hD' => ?_)
      · obtain ⟨e, he, hye⟩ := ha.at hy
        refine te_many (sN.trans s') hye (hT e (List.mem_of_getElem? he)) fun H'' s'' => k _ _ ?_ s''
        rw [List.getElem?_map, he]
        rfl
      · refine ⟨D, ds.map fun d => 1 + ((innerW d).map fun b => man n (elems b)).sum, rfl, SqL.of (by rw [hD', List.map_map]; rfl), ?_⟩
        exact q _ s'
end
end K07
namespace K07
open PySem PySem.Spec PyProof.Rows L2
abbrev s_law_bent : Stmt := top 55
/-! ### one part changed -/
theorem mix_sub {N H A B : Hp} (h : ∀ b o, H b = none → A b = some o → B b = some o) : Same (mix N H A) (mix N H B) := fun b o e => by
  unfold mix at e ⊢
  by_cases z : H b = none
  · rw [if_pos z] at e ⊢; exact h b o z e
  · rw [if_neg z] at e ⊢; exact e
theorem sm_tail {x : PyData} {xs : List PyData} (h : Sm (.tuple (x :: xs))) : Sm (.tuple xs) := by
  obtain ⟨a, b, c, e⟩ := h
  rw [PyData.hasDict, PyData.hasDictAll, Bool.or_eq_false_iff] at a
  rw [PyData.canLay0, PyData.canLayAll0, Bool.and_eq_true] at b
  rw [PyData.depth, PyData.depthAll] at c
  rw [PyData.weight, PyData.weightAll] at e
  refine ⟨?_, ?_, ?_, ?_⟩
  · rw [PyData.hasDict]; exact a.2
  · rw [PyData.canLay0]; exact b.2
  · rw [PyData.depth]; have := Nat.le_max_right x.depth (PyData.depthAll xs); omega
  · rw [PyData.weight]; omega
theorem tr_smd {m : Nat} (hm : m ≤ 3) {d : PyData} (h : Tr leaves m d) : Sm d := by
  have k := tr_sm m d (Tr.up (fun d hd => List.mem_append.mpr (.inl hd)) h)
  have w : wT m ≤ 100000 := by
    match m, hm with
    | 0, _ => decide
    | 1, _ => decide
    | 2, _ => decide
    | 3, _ => decide
  exact ⟨k.nd, k.lay, Nat.le_trans k.dp (by omega), Nat.le_trans k.wt w⟩
theorem sm_in {d : PyData} (h : Sm d) : Sm (.tuple (innerW d)) := by
  unfold innerW
  split
  · split
    · exact sm_tail h
    · exact sm_nil
  · exact sm_nil
theorem eqv_nil (xs : List PyData) : PyData.eqv (.tuple xs) (.tuple []) = decide (xs = []) := by
  cases xs with
  | nil => rfl
  | cons x xs => rfl
def spBent (K : PySem.W.Frag) (n : Nat) : Sp := fun vs H Q _ => ∃ (m : Nat) (v vo : V) (ds : List PyData) (odd : PyData) (at_ k : Int) (c : Addr) (N : Hp), n = m + 1 ∧ m ≤ 3 ∧ vs = [v, .int at_, vo, .ref c] ∧ Same N H ∧ N c = none ∧ Dq K N v (.tuple ds) ∧ Dq K N vo odd ∧ ds.length ≤ 6 ∧ (∀ d ∈ ds, Tr leaves m d) ∧ H c = some (.lst [.int k]) ∧
  ∀ u H', (∀ b o, b ≠ c → H b = some o → H' b = some o) → H' c = some (.lst [.int (ben n at_ odd ds k).2]) → Dq K (mix N H H') u (.tuple (ben n at_ odd ds k).1) → Q u H'
section
variable {P : Program} {w : World} {K : PySem.W.Frag} {mg : Str → Option Value} {base : Heap} {f g : Addr} {fd gd : FuncData} {CX : CXT}
theorem sc_law_bent : FnScope ["_law_block", "_law_at", "_law_odd_here", "_law_count", "_law_found", "_law_part", "_law_number", "_law_inner", "_law_parts", "_law_one"] ["_law_block", "_law_at", "_law_odd_here", "_law_count"] (defScope s_law_bent) := ⟨rfl, rfl, rfl, by decide +kernel, rfl, by decide +kernel, by decide +kernel⟩
theorem ok_bent0 {k : Nat} : FnOk P w K mg base CX0 k f fd ["_law_block", "_law_at", "_law_odd_here", "_law_count"] (spBent K 0) :=
  ⟨fun vs H Q E h => (by obtain ⟨_, _, _, _, _, _, _, _, _, e, _⟩ := h; cases e), fun A o s H a us vs Q E hr e0 hb rv h => (by obtain ⟨_, _, _, _, _, _, _, _, _, e, _⟩ := h; cases e)⟩
theorem ok_bent {n : Nat} (GT : FnP K "_law_bent" s_law_bent f fd) (mT : mg "_law_bent" = some (.ref f)) (mt : mg "tuple" = none)
    (FR : FnOk P w K mg base CX0 (n + 1) f fd ["_law_block", "_law_at", "_law_odd_here", "_law_count"] (spBent K n)) : FnOk P w K mg base CX0 (n + 2) f fd ["_law_block", "_law_at", "_law_odd_here", "_law_count"] (spBent K (n + 1)) := by
  have bT : Binds K fd ["_law_block", "_law_at", "_law_odd_here", "_law_count"] [] := GT.bindsN fun _ _ _ _ _ _ us hl => match us, hl with | [_, _, _, _], _ => rfl
  refine GT.ok sc_law_bent (fun vs H Q E h => ?_) (fun cdv A outer s H vs Q E hr h => ?_)
  · obtain ⟨_, _, _, _, _, _, _, _, _, _, _, rfl, _⟩ := h
    rfl
  · obtain ⟨m, v, vo, ds, odd, at_, k, c, N, em, hm3, rfl, sN, hNc, hv, hvo, hl6, hT, hc, q⟩ := h
    cases Nat.succ.inj em
    have hu := hr.units
    refine ⟨_, PSs.nox (pss_cons (ps_set (i := 4) sc_law_bent.nd rfl (Or.inl rfl) (pe_lst pa_nil))
      (pss_cons (ps_for PassesOwn.never rfl (pi_tup (pv 0)) (pg_name (i := 5) sc_law_bent.nd rfl (Or.inl rfl))
        (pss_cons (ps_set (i := 6) sc_law_bent.nd rfl (Or.inl rfl) (pe_ix ix_list (pv 3) pe_int (fun _ _ => rfl)))
      (pss_cons (ps_asg (pe_op op_add (pv 6) pe_int) (pg_sub (pv 3) pe_int set_list))
      (pss_cons (ps_set (i := 7) sc_law_bent.nd rfl (Or.inl rfl) (pe_ifExp (pt_cmpR op_in_seq (pe_ix ix_tup (pv 5) pe_int (fun _ _ => rfl)) (pe_tup (pa_cons pe_str (pa_cons pe_str pa_nil))) (by rfl)) (pe_slice sl_tup (pv 5) (po_some pe_int) po_none) (pe_tup pa_nil)))
      (pss_cons (ps_setLc (i := 8) (own := [("_law_one", 9)]) (g := gName 9) (tt := tYes) rfl sc_law_bent.nd rfl rfl rfl (pi_tup (pv 7)) (blkOk_by (N := ["_law_block", "_law_at", "_law_odd_here", "_law_count", "_law_found", "_law_part", "_law_number", "_law_inner", "_law_parts", "_law_one"]) (sc := defScope s_law_bent) (by decide +kernel)) (fun _ _ _ _ _ => pg_name (i := 9) sc_law_bent.nd rfl (Or.inl rfl)) (fun _ _ _ _ _ => pts_nil) (fun _ _ _ _ _ => (pe_call FR hr rfl mT GT.kp bT .nil pass0 (pa_cons (pv 9) (pa_cons (pv 1) (pa_cons (pv 2) (pa_cons (pv 3) pa_nil)))))))
      (pss_one (ps_if (pt_cmpR op_eq (pv 6) (pv 1) (nomark _)) (pss_one (ps_expr (pe_bm PySem.F.plainAttrs_list PySem.F.slot_list_append PySem.F.type_list_append mt_append (pv 4) (pa_cons (pv 2) pa_nil)))) (pss_one (ps_expr (pe_bm PySem.F.plainAttrs_list PySem.F.slot_list_append PySem.F.type_list_append mt_append (pv 4) (pa_cons (pe_ifExp (pt_cmpR (op_neD hu) (pv 7) (pe_tup pa_nil) (nomark _)) (pe_op op_catT (pe_tup (pa_cons (pe_ix ix_tup (pv 5) pe_int (fun _ _ => rfl)) pa_nil)) (pe_tupleOf (by rfl) mt (pv 8))) (pv 5)) pa_nil)))))))))))
      (pss_one (ps_ret (pe_tupleOf (by rfl) mt (pv 4)))))), ?_⟩
    refine ⟨(by show 0 ≤ sizeLine; decide), fun F hF => ?_⟩
    cases hv with
    | @tup a xs _ hsq ha =>
      have elx : xs.length = ds.length := ha.len
      have hFc : F ≠ c := fun e => by rw [e, hc] at hF; cases hF
      have k0 : ∀ b o, b ≠ c → H b = some o → upd H F (.lst []) b = some o := fun b o _ e => by rw [upd_ne (ne_of_none e hF)]; exact e
      refine ⟨_, rfl, a, rfl, ⟨_, SqT.upT (same_kept sN hNc k0) hsq⟩, ?_⟩
      refine for_tup (xs := xs) (fun i σ H' => ∃ k' ws dn o5 o6 o7 o8 o9, σ = [some (.ref a), some (.int at_), some vo, some (.ref c), some (.ref F), o5, o6, o7, o8, o9] ∧ (∀ b o, b ≠ c → H b = some o → H' b = some o) ∧ H' c = some (.lst [.int k']) ∧ H' F = some (.lst ws) ∧ ws.length = i ∧
          DqA K (mix N H (hid F H')) ws dn ∧ ben (n + 1) at_ odd ds k = (dn ++ (benL (fun xs j => ben n at_ odd xs j) at_ odd (ds.drop i) k').1, (benL (fun xs j => ben n at_ odd xs j) at_ odd (ds.drop i) k').2))
        ⟨k, [], [], _, _, _, _, _, rfl, k0, (by rw [upd_ne (Ne.symm hFc)]; exact hc), upd_same, rfl, .nil, rfl⟩ (fun i σ H' _ hP => by obtain ⟨_, _, _, _, _, _, _, _, _, kk, _⟩ := hP; exact SqT.upT (same_kept sN hNc kk) hsq) (fun i x σ H' hx hP => ?_) (fun σ H' hP => ?_)
      · obtain ⟨k', ws, dn, o5, o6, o7, o8, o9, rfl, kH, hc', hF', hwl, hdn, hE⟩ := hP
        obtain ⟨d, hdi, hxd⟩ := ha.at hx
        have hil : i < ds.length := (List.getElem?_eq_some_iff.mp hdi).1
        have edr : ds.drop i = d :: ds.drop (i + 1) := by
          rw [List.drop_eq_getElem_cons hil, (List.getElem?_eq_some_iff.mp hdi).2]
        rw [edr, benL] at hE
        have htd := hT d (List.mem_of_getElem? hdi)
        refine ⟨_, rfl, c, _, 0, _, rfl, rfl, SqL.of hc', rfl, ?_⟩
        refine ⟨_, rfl, _, _, rfl, rfl, _, rfl, c, _, 0, 0, rfl, rfl, hc', rfl, ?_⟩
        have hc2 : upd H' c (.lst ([V.int k'].set 0 (.int (k' + 1)))) c = some (.lst [.int (k' + 1)]) := upd_same
        have kH2 : ∀ b o, b ≠ c → H' b = some o → upd H' c (.lst ([V.int k'].set 0 (.int (k' + 1)))) b = some o := fun b o hb e => by rw [upd_ne hb]; exact e
        generalize upd H' c (.lst ([V.int k'].set 0 (.int (k' + 1)))) = H2 at hc2 kH2 ⊢
        have sN2 : Same N H2 := same_kept sN hNc fun b o hb e => kH2 b o hb (kH b o hb e)
        refine inner_run rfl sN2 hxd (tr_head htd) fun t ys H3 s3 ht ht' hys => ?_
        have ely : ys.length = (innerW d).length := hys.len
        have htc : t ≠ c := fun e => by rw [e, hc2] at ht; cases ht
        have hc3 := s3 _ _ hc2
        have sN3 : Same N H3 := sN2.trans s3
        refine ⟨_, rfl, t, rfl, ⟨_, SqT.of ht'⟩, fun D hD => ?_⟩
        have hDc : D ≠ c := fun e => by rw [e, hc3] at hD; cases hD
        refine lc_it walk_tup (fun j H4 => ∃ k2 zs en, (∀ b o, b ≠ c → H3 b = some o → H4 b = some o) ∧ H4 c = some (.lst [.int k2]) ∧ H4 D = some (.lst zs) ∧ zs.length = j ∧ DqA K (mix N H3 (hid D H4)) zs en ∧
            benI (fun xs j => ben n at_ odd xs j) (innerW d) (k' + 1) = (en ++ (benI (fun xs j => ben n at_ odd xs j) ((innerW d).drop j) k2).1, (benI (fun xs j => ben n at_ odd xs j) ((innerW d).drop j) k2).2)) ?_ (fun j H4 _ hP => by obtain ⟨_, _, _, kk, _⟩ := hP; exact SqT.of (kk _ _ htc ht')) ?_ ?_
        · exact ⟨k' + 1, [], [], fun b o _ e => (Same.new' hD) b o e, (by rw [upd_ne (Ne.symm hDc)]; exact hc3), upd_same, rfl, .nil, rfl⟩
        · rintro j y H4 H5 hj ⟨k2, zs, en, kH4, hc4, hD4, hzl, hen, hI⟩ ⟨rfl, hy⟩
          refine ⟨rfl, ?_⟩
          obtain ⟨b, hbi, hyb⟩ := hys.at hy
          have hjl : j < (innerW d).length := (List.getElem?_eq_some_iff.mp hbi).1
          have edj : (innerW d).drop j = b :: (innerW d).drop (j + 1) := by
            rw [List.drop_eq_getElem_cons hjl, (List.getElem?_eq_some_iff.mp hbi).2]
          rw [edj, benI] at hI
          have hbm := List.mem_of_getElem? hbi
          obtain ⟨m', b', rfl, rfl, hb1, hb2⟩ : ∃ m' b', n = m' + 1 ∧ b = .tuple b' ∧ b'.length ≤ 2 ∧ ∀ x ∈ b', Tr leaves m' x := by
            cases n with
            | zero => rw [(leaf_inner d htd).1] at hbm; cases hbm
            | succ m' =>
              rcases htd with hl | ⟨z, bs, hz, rfl, hbs⟩
              · rw [(leaf_inner d hl).1] at hbm; cases hbm
              · rw [blk_inner hz] at hbm
                obtain ⟨b', hb', rfl⟩ := List.mem_map.mp hbm
                exact ⟨m', b', rfl, rfl, hbs b' hb'⟩
          refine ⟨_, rfl, _, rfl, _, rfl, _, rfl, m', y, vo, b', odd, at_, k2, c, N, rfl, by omega, rfl, same_kept sN3 hNc kH4, hNc, hyb, hvo, by omega, hb2, hc4, fun u H6 kH6 hc6 hu6 => ?_⟩
          have ee : elems (.tuple b') = b' := rfl
          rw [ee] at hI
          refine ⟨zs, kH6 _ _ hDc hD4, ?_, (ben (m' + 1) at_ odd b' k2).2, zs ++ [u], en ++ [.tuple (ben (m' + 1) at_ odd b' k2).1], fun b o hb e => ?_, ?_, upd_same, by simp [hzl], DqA.app (hen.up ?_) (.cons (hu6.up ?_) .nil), ?_⟩
          · rw [hzl]
            have e3 : (innerW d).length ≤ 100000 := (sm_in (tr_smd hm3 htd)).len
            exact Nat.lt_of_lt_of_le (show j < 100001 by omega) (by decide)
          · rw [upd_ne (ne_of_none e hD)]
            exact kH6 b o hb (kH4 b o hb e)
          · rw [upd_ne (Ne.symm hDc)]
            exact hc6
          · refine mix_sub fun b o z e => ?_
            obtain ⟨e1, e2⟩ := hid_some e
            refine hid_at ?_ e1
            rw [upd_ne e1]
            exact kH6 b o (fun h => by rw [h, hc3] at z; cases z) e2
          · intro b o e
            rcases mix_cases e with ⟨e1, e2⟩ | ⟨e1, e2⟩
            · have nD : b ≠ D := fun h => by rw [h, hD4] at e1; cases e1
              have n3 : H3 b = none := by
                cases e3 : H3 b with
                | none => rfl
                | some u =>
                  rw [kH4 b u (fun h => by rw [h, hc4] at e1; cases e1) e3] at e1
                  cases e1
              refine mix_new n3 (hid_at ?_ nD)
              rw [upd_ne nD]
              exact e2
            · exact mix_old sN3 b o e2
          · rw [hI]
            simp only [List.append_assoc, List.singleton_append]
        · rintro H4 ⟨k2, zs, en, kH4, hc4, hD4, hzl, hen, hI⟩
          rw [ely, List.drop_length, benI, List.append_nil] at hI
          have een : en = (benI (fun xs j => ben n at_ odd xs j) (innerW d) (k' + 1)).1 := by rw [hI]
          have ek2 : k2 = (benI (fun xs j => ben n at_ odd xs j) (innerW d) (k' + 1)).2 := by rw [hI]
          have hF4 : H4 F = some (.lst ws) := kH4 _ _ hFc (s3 _ _ (kH2 _ _ hFc hF'))
          have kH5 : ∀ b o, b ≠ c → H' b = some o → H4 b = some o := fun b o hb e => kH4 b o hb (s3 b o (kH2 b o hb e))
          have back : ∀ b, H4 b = none → H b = none := fun b e => by
            cases e3 : H b with
            | none => rfl
            | some u =>
              rw [kH5 b u (fun h => by rw [h, hc4] at e; cases e) (kH b u (fun h => by rw [h, hc4] at e; cases e) e3)] at e
              cases e
          have hwl2 : ws.length < sizeLine := by
            rw [hwl]
            exact Nat.lt_of_lt_of_le (show i < 7 by omega) (by decide)
          have fin : ∀ u H5, Same H4 H5 → Dq K (mix N H (hid F H5)) u (if k' = at_ then odd else if innerW d = [] then d else .tuple (hdW d :: (benI (fun xs j => ben n at_ odd xs j) (innerW d) (k' + 1)).1)) →
              (∀ b o, b ≠ c → H b = some o → upd H5 F (.lst (ws ++ [u])) b = some o) ∧ upd H5 F (.lst (ws ++ [u])) c = some (.lst [.int k2]) ∧ upd H5 F (.lst (ws ++ [u])) F = some (.lst (ws ++ [u])) ∧ (ws ++ [u]).length = i + 1 ∧ DqA K (mix N H (hid F (upd H5 F (.lst (ws ++ [u]))))) (ws ++ [u]) (dn ++ [(if k' = at_ then odd else if innerW d = [] then d else .tuple (hdW d :: (benI (fun xs j => ben n at_ odd xs j) (innerW d) (k' + 1)).1))]) ∧
              ben (n + 1) at_ odd ds k = ((dn ++ [(if k' = at_ then odd else if innerW d = [] then d else .tuple (hdW d :: (benI (fun xs j => ben n at_ odd xs j) (innerW d) (k' + 1)).1))]) ++ (benL (fun xs j => ben n at_ odd xs j) at_ odd (ds.drop (i + 1)) k2).1, (benL (fun xs j => ben n at_ odd xs j) at_ odd (ds.drop (i + 1)) k2).2) := fun u H5 s5 hu5 => by
            refine ⟨fun b o hb e => ?_, ?_, upd_same, by simp [hwl], ?_, ?_⟩
            · rw [upd_ne (ne_of_none e hF)]
              exact s5 b o (kH5 b o hb (kH b o hb e))
            · rw [upd_ne (Ne.symm hFc)]
              exact s5 _ _ hc4
            · rw [hid_upd]
              exact DqA.app (hdn.up (mix_sub fun b o z e => by
                obtain ⟨e1, e2⟩ := hid_some e
                exact hid_at (s5 b o (kH5 b o (fun h => by rw [h, hc] at z; cases z) e2)) e1)) (.cons hu5 .nil)
            · rw [hE, ek2]
              simp only [List.append_assoc, List.singleton_append]
          refine ⟨_, rfl, _, rfl, rfl, _, rfl, ?_⟩
          refine iteB (fun h1 => ?_) (fun h1 => ?_)
          · have e1 : k' = at_ := by have := of_decide_eq_true h1; injection this
            refine ⟨_, rfl, .inl ⟨rfl, _, SqL.of hF4⟩, _, rfl, F, ws, vo, rfl, rfl, hF4, hwl2, ?_⟩
            obtain ⟨f1, f2, f3, f4, f5, f6⟩ := fin vo H4 (Same.refl _) (by rw [if_pos e1]; exact hvo.up (mix_old sN))
            exact ⟨k2, ws ++ [vo], _, _, _, _, _, _, rfl, f1, f2, f3, f4, f5, f6⟩
          · have e1 : k' ≠ at_ := fun e => of_decide_eq_false h1 (by rw [e])
            rw [if_neg e1] at fin
            have smi := sm_in (tr_smd hm3 htd)
            refine ⟨_, rfl, .inl ⟨rfl, _, SqL.of hF4⟩, _, rfl, (by show 0 ≤ sizeLine; decide), fun p he => ?_⟩
            have s5 : Same H4 (upd H4 p (.tup [])) := Same.new' he
            have ht4 : H4 t = some (.tup ys) := kH4 _ _ htc ht'
            have hp5 : upd H4 p (.tup []) p = some (.tup []) := upd_same
            generalize upd H4 p (.tup []) = H5 at s5 hp5 ⊢
            have sN5 : Same N H5 := (same_kept sN3 hNc kH4).trans s5
            refine ⟨.tuple (innerW d), .tuple [], (Dq.tup (SqT.of (s5 _ _ ht4)) (hys.up sN5)).dp smi.nd, (Dq.tup (SqT.of hp5) .nil).dp sm_nil.nd, smi.shaped, sm_nil.shaped, _, rfl, ?_⟩
            rw [eqv_nil]
            by_cases hi : innerW d = []
            · refine iteNY hi ⟨_, rfl, F, ws, x, rfl, rfl, s5 _ _ hF4, hwl2, ?_⟩
              obtain ⟨f1, f2, f3, f4, f5, f6⟩ := fin x H5 s5 (by rw [if_pos hi]; exact hxd.up (mix_old sN))
              exact ⟨k2, ws ++ [x], _, _, _, _, _, _, rfl, f1, f2, f3, f4, f5, f6⟩
            · obtain ⟨pa, qs, z, es, rfl, rfl, hsq2, hqs⟩ := head_ix hxd (tr_head htd)
              rw [if_neg hi] at fin
              refine iteNN hi ⟨_, rfl, pa, _, 0, _, rfl, rfl, SqT.upT sN5 hsq2, at0, (by show 1 ≤ sizeLine; decide), fun t1 h1' => ?_⟩
              have s6 : Same H5 (upd H5 t1 (.tup [.str z])) := Same.new' h1'
              have ht1 : upd H5 t1 (.tup [.str z]) t1 = some (.tup [.str z]) := upd_same
              generalize upd H5 t1 (.tup [.str z]) = H6 at s6 ht1 ⊢
              refine ⟨_, rfl, .inl ⟨D, zs, rfl, SqL.of (s6 _ _ (s5 _ _ hD4)), fun t2 h2' => ?_⟩⟩
              have s7 : Same H6 (upd H6 t2 (.tup zs)) := Same.new' h2'
              have ht2 : upd H6 t2 (.tup zs) t2 = some (.tup zs) := upd_same
              generalize upd H6 t2 (.tup zs) = H7 at s7 ht2 ⊢
              have zne : zs ≠ [] := fun e => by
                rw [e] at hzl
                rw [ely] at hzl
                exact hi (List.eq_nil_of_length_eq_zero hzl.symm)
              have zle : zs.length ≤ 100000 := by rw [hzl, ely]; exact smi.len
              refine ⟨t1, t2, [.str z], zs, rfl, rfl, SqT.of (s7 _ _ ht1), SqT.of ht2, (fun e => by cases e), ?_, (fun e => absurd e zne), fun _ t3 h3' => ?_⟩
              · exact Nat.le_trans (show [V.str z].length + zs.length ≤ 100001 by simp; omega) (by decide)
              · have s8 : Same H7 (upd H7 t3 (.tup ([.str z] ++ zs))) := Same.new' h3'
                have ht3 : upd H7 t3 (.tup ([.str z] ++ zs)) t3 = some (.tup ([.str z] ++ zs)) := upd_same
                have hn3 : H4 t3 = none := (s5.trans (s6.trans s7)).free h3'
                generalize upd H7 t3 (.tup ([.str z] ++ zs)) = H8 at s8 ht3 ⊢
                have s48 : Same H4 H8 := s5.trans (s6.trans (s7.trans s8))
                have nF : t3 ≠ F := fun e => by rw [e, hF4] at hn3; cases hn3
                refine ⟨F, ws, .ref t3, rfl, rfl, s48 _ _ hF4, hwl2, ?_⟩
                have zl : z.length ≤ sizeLine := by
                  cases hxd with
                  | tup _ hh => cases hh with | cons h0 _ => cases h0; assumption
                obtain ⟨f1, f2, f3, f4, f5, f6⟩ := fin (.ref t3) H8 s48 (.tup (SqT.of (mix_new (back t3 hn3) (hid_at ht3 nF))) (.cons (.str z zl) (by
                  rw [← een]
                  refine hen.up fun b o e => ?_
                  rcases mix_cases e with ⟨e1, e2⟩ | ⟨e1, e2⟩
                  · obtain ⟨e3, e4⟩ := hid_some e2
                    have nb : b ≠ F := fun h => by
                      rw [h, s3 _ _ (kH2 _ _ hFc hF')] at e1
                      cases e1
                    have nH : H b = none := by
                      cases e5 : H b with
                      | none => rfl
                      | some u =>
                        have nc : b ≠ c := fun h => by rw [h, hc3] at e1; cases e1
                        rw [s3 _ _ (kH2 _ _ nc (kH b u nc e5))] at e1
                        cases e1
                    exact mix_new nH (hid_at (s48 b o e4) nb)
                  · exact mix_old sN b o e2)))
                exact ⟨k2, ws ++ [.ref t3], _, _, _, _, _, _, rfl, f1, f2, f3, f4, f5, f6⟩
      · obtain ⟨k', ws, dn, o5, o6, o7, o8, o9, rfl, kH, hc', hF', hwl, hdn, hE⟩ := hP
        rw [elx, List.drop_length, benL, List.append_nil] at hE
        refine ⟨_, rfl, .inl ⟨F, ws, rfl, SqL.of hF', fun p hp => ?_⟩⟩
        have hpc : p ≠ c := fun e => by rw [e, hc'] at hp; cases hp
        have hpF : p ≠ F := fun e => by rw [e, hF'] at hp; cases hp
        have hHp : H p = none := by
          cases e3 : H p with
          | none => rfl
          | some u => rw [kH p u hpc e3] at hp; cases hp
        have s4 : Same H' (upd H' p (.tup ws)) := Same.new' hp
        refine q _ _ (fun b o hb e => s4 b o (kH b o hb e)) ?_ ?_
        · rw [hE]
          exact s4 _ _ hc'
        · rw [hE]
          exact .tup (SqT.of (mix_new hHp upd_same)) (hdn.up (mix_sub fun b o z e => s4 b o (hid_some e).2))
end
end K07
namespace K07
open PySem PySem.Spec PyProof.Rows L2
abbrev s_law : Stmt := top 58
structure Blt2 (mg : Str → Option Value) : Prop where
  range : mg "range" = none
  max : mg "max" = none
  min : mg "min" = none
  sum : mg "sum" = none
def spLaw (K : PySem.W.Frag) : Sp := fun vs H Q _ => ∃ (a : Addr) (ns : List Int), vs = [.ref a] ∧ SqL K H a (ns.map V.int) ∧ ns.length ≤ 63 ∧ ∀ H', Q (.bl true) H'
theorem mix_hp {N H H' : Hp} {c : Addr} (sN : Same N H) (hc : N c = none) (k : ∀ b o, b ≠ c → H b = some o → H' b = some o) : Same (mix N H H') H' := fun b o e => by
  rcases mix_cases e with ⟨_, e2⟩ | ⟨_, e2⟩
  · exact e2
  · exact k b o (ne_of_none e2 hc) (sN b o e2)
theorem sm_call : smBb callN = true := by decide +kernel
theorem sm_second {ds : List PyData} (hl : ds.length ≤ 5) (h : ∀ d ∈ ds, Tr leaves 3 d) : Sm (.tuple (ds ++ [callN])) := by
  have k := smB_tup (c := 10) (e := wT 3) (n := 6) (ds := ds ++ [callN]) (fun d hd => by
    rcases List.mem_append.mp hd with hd | hd
    · exact (tr_sm 3 d (Tr.up (fun d hd => List.mem_append.mpr (.inl hd)) (h d hd))).mono (by decide) (Nat.le_refl _)
    · cases List.mem_singleton.mp hd
      exact (smB_of sm_call).mono (by decide) (wT_ge 3)) (by rw [List.length_append]; show ds.length + 1 ≤ 6; omega)
  exact ⟨k.nd, k.lay, Nat.le_trans k.dp (by decide), Nat.le_trans k.wt (by decide)⟩
def ansD : Option Int → PyData
  | none => .str "made"
  | some i => .list [.str "b", .int i]
theorem shB (i : Int) : SeqAt.shaped (.list [.str "b", .int i]) = true := by
  have hb : PyData.canLay0 (.str "b") = true := by decide +kernel
  unfold SeqAt.shaped
  rw [PyData.canLay0, PyData.canLayAll0, hb, PyData.canLayAll0, PyData.canLay0, PyData.canLayAll0]
  simp [PyData.depth, PyData.depthAll]
theorem ans_sm (o : Option Int) : (ansD o).hasDict = false ∧ SeqAt.shaped (ansD o) = true := by
  cases o with
  | none => exact ⟨rfl, by decide +kernel⟩
  | some i => exact ⟨rfl, shB i⟩
def ans2 (o : Option Int) (n : Int) : PyData := match o with
  | some i => .list [.str "b", .int i]
  | none => if 12 ≤ n then .list [.str "b", .int 12] else .str "none"
theorem ans2_sm (o : Option Int) (n : Int) : (ans2 o n).hasDict = false ∧ SeqAt.shaped (ans2 o n) = true := by
  cases o with
  | some i => exact ⟨rfl, shB i⟩
  | none =>
    unfold ans2
    by_cases h : 12 ≤ n
    · simp only [if_pos h]
      exact ⟨rfl, shB 12⟩
    · simp only [if_neg h]
      exact ⟨rfl, by decide +kernel⟩
theorem told1 {ds : List PyData} {odd : PyData} {at_ : Int} (hl : ds.length ≤ 5) (h : ∀ d ∈ ds, Tr leaves 3 d) (ho : odd ∈ oddL) : toldE (errB (ben 4 at_ odd ds 0).1) = ansD (fir 3 at_ ds 0 0).1 ∧ (∀ nm, errB (ben 4 at_ odd ds 0).1 ≠ some (.long nm)) ∧ ∀ z, errB (ben 4 at_ odd ds 0).1 = some (.unk z) → z.length ≤ sizeLine := by
  rw [first_ans hl h ho]
  cases (fir 3 at_ ds 0 0).1 with
  | none => exact ⟨rfl, fun _ e => (by cases e), fun _ e => (by cases e)⟩
  | some i => exact ⟨rfl, fun _ e => (by cases e), fun _ e => (by cases e)⟩
theorem told2 {ds : List PyData} (h : ∀ d ∈ ds, Tr leaves 3 d) : toldE (errB (ds ++ [callN])) = ans2 (fir 3 (-1) ds 0 0).1 (man 4 ds) ∧ (∀ nm, errB (ds ++ [callN]) ≠ some (.long nm)) ∧ ∀ z, errB (ds ++ [callN]) = some (.unk z) → z.length ≤ sizeLine := by
  rw [second_ans h]
  cases (fir 3 (-1) ds 0 0).1 with
  | some i => exact ⟨rfl, fun _ e => (by cases e), fun _ e => (by cases e)⟩
  | none =>
    unfold ans2
    by_cases hm : 12 ≤ man 4 ds
    · simp only [if_pos hm]
      exact ⟨rfl, fun _ e => (by cases e), fun _ e => (by cases e)⟩
    · simp only [if_neg hm]
      exact ⟨rfl, fun _ e => (by cases e), fun z e => (by cases e; decide)⟩
theorem made_run {K : PySem.W.Frag} {σ : L2.St} {H : Hp} {Q : VK} {o : Option Int} (e7 : σ[7]? = some (some (optI o))) (q : ∀ v H', Same H H' → Dq K H' v (ansD o) → Q v H') : tIf (tB (tIsN (tVar 7))) (tC (.str "made")) (tLst (tCons (tC (.str "b")) (tCons (tVar 7) tNil))) σ H Q := by
  refine ⟨_, e7, _, rfl, ?_⟩
  cases o with
  | none => exact iteY rfl (q _ _ (Same.refl _) (.str "made" (by decide)))
  | some i => exact iteN (fun e => by cases e) ⟨_, e7, (by show 2 ≤ sizeLine; decide), fun l hl => q _ _ (Same.new' hl) (.lst (SqL.of upd_same) (.cons (.str "b" (by decide)) (.cons (.int i) .nil)))⟩
theorem ans2_run {K : PySem.W.Frag} {σ : L2.St} {N H : Hp} {Q : VK} {o : Option Int} {v : V} {ds : List PyData} (e7 : σ[7]? = some (some (optI o))) (e4 : σ[4]? = some (some v)) (sN : Same N H) (hv : Dq K N v (.tuple ds)) (hl : ds.length ≤ 6) (hT : ∀ d ∈ ds, Tr leaves 3 d) (q : ∀ v H', Same H H' → Dq K H' v (ans2 o (man 4 ds)) → Q v H') :
    tIf (tB (tNotN (tVar 7))) (tLst (tCons (tC (.str "b")) (tCons (tVar 7) tNil))) (tIf (tTest (tOp (rI0 fun i j => V.bl (decide (j ≤ i))) (tCall (spMany K 4) [] E0 (tCons (tVar 4) tNil)) (tC (.int 12)))) (tLst (tCons (tC (.str "b")) (tCons (tC (.int 12)) tNil))) (tC (.str "none"))) σ H Q := by
  refine ⟨_, e7, _, rfl, ?_⟩
  cases o with
  | some i => exact iteNN (fun e => by cases e) ⟨_, e7, (by show 2 ≤ sizeLine; decide), fun l hl => q _ _ (Same.new' hl) (.lst (SqL.of upd_same) (.cons (.str "b" (by decide)) (.cons (.int i) .nil)))⟩
  | none =>
    refine iteNY rfl ⟨_, e4, 3, v, ds, N, rfl, rfl, sN, hv, hl, hT, fun H1 s1 => ⟨_, _, rfl, rfl, _, rfl, ?_⟩⟩
    unfold ans2 at q
    by_cases hm : (12 : Int) ≤ man 4 ds
    · simp only [if_pos hm] at q
      exact iteY hm ⟨(by show 2 ≤ sizeLine; decide), fun l hl => q _ _ (s1.trans (Same.new' hl)) (.lst (SqL.of upd_same) (.cons (.str "b" (by decide)) (.cons (.int 12) .nil)))⟩
    · simp only [if_neg hm] at q
      exact iteN hm (q _ _ s1 (.str "none" (by decide)))
section
variable {P : Program} {w : World} {K : PySem.W.Frag} {mg : Str → Option Value} {base : Heap} {f g : Addr} {fd gd : FuncData} {CX : CXT}
theorem sc_law : FnScope ["_law_script", "_law_k", "_law_pool_here", "_law_turn", "_law_block", "_law_at", "_law_odd_here", "_law_first_here", "_law_told_here", "_law_place"] ["_law_script"] (defScope s_law) := ⟨rfl, rfl, rfl, by decide +kernel, rfl, by decide +kernel, by decide +kernel⟩
theorem ok_law (F : FnP K "law" s_law f fd) (B : Blt mg) (M : Blt2 mg) {gP gD gT gO gF gB gL gM : Addr} {eP eD eT eO eF eB eL eM : FuncData}
    (GP : FnP K "_law_pool" s_law_pool gP eP) (mP : mg "_law_pool" = some (.ref gP)) (GD : FnP K "_law_draw" s_law_draw gD eD) (mD : mg "_law_draw" = some (.ref gD)) (GT : FnP K "_law_tree" s_law_tree gT eT) (mT : mg "_law_tree" = some (.ref gT)) (GO : FnP K "_law_odd" s_law_odd gO eO) (mO : mg "_law_odd" = some (.ref gO))
    (GF : FnP K "_law_first" s_law_first gF eF) (mF : mg "_law_first" = some (.ref gF)) (GB : FnP K "_law_bent" s_law_bent gB eB) (mB : mg "_law_bent" = some (.ref gB)) (GM : FnP K "_law_many" s_law_many gM eM) (mM : mg "_law_many" = some (.ref gM))
    (GL : FnP K "_law_told" s_law_told gL eL) (mL : mg "_law_told" = some (.ref gL)) (FL : FnOk P w K mg base CX0 13 gL eL ["_law_block"] (spTold K)) :
    FnG P w K mg base CX0 14 f fd ["_law_script"] (spLaw K) := by
  have bP : Binds K eP ["_law_script", "_law_k"] [] := GP.bindsN fun _ _ _ _ _ _ us hl => match us, hl with | [_, _], _ => rfl
  have bD : Binds K eD ["_law_pool_here", "_law_many_here"] [] := GD.bindsN fun _ _ _ _ _ _ us hl => match us, hl with | [_, _], _ => rfl
  have bT : Binds K eT ["_law_pool_here", "_law_depth"] [] := GT.bindsN fun _ _ _ _ _ _ us hl => match us, hl with | [_, _], _ => rfl
  have bO : Binds K eO ["_law_pool_here"] [] := GO.bindsN fun _ _ _ _ _ _ us hl => match us, hl with | [_], _ => rfl
  have bF : Binds K eF ["_law_block", "_law_at", "_law_depth", "_law_count"] [] := GF.bindsN fun _ _ _ _ _ _ us hl => match us, hl with | [_, _, _, _], _ => rfl
  have bB : Binds K eB ["_law_block", "_law_at", "_law_odd_here", "_law_count"] [] := GB.bindsN fun _ _ _ _ _ _ us hl => match us, hl with | [_, _, _, _], _ => rfl
  have bM : Binds K eM ["_law_block"] [] := GM.bindsN fun _ _ _ _ _ _ us hl => match us, hl with | [_], _ => rfl
  have bL : Binds K eL ["_law_block"] [] := GL.bindsN fun _ _ _ _ _ _ us hl => match us, hl with | [_], _ => rfl
  have FP : FnOk P w K mg base CX0 1 gP eP ["_law_script", "_law_k"] (spPool K) := ok_law_pool GP B.len B.int
  have FD : FnOk P w K mg base CX0 1 gD eD ["_law_pool_here", "_law_many_here"] spDraw := ok_law_draw GD B.int
  have FO : FnOk P w K mg base CX0 2 gO eO ["_law_pool_here"] (spOdd K) := ok_law_odd GO GD mD B.int B.len
  have FT : FnOk P w K mg base CX0 5 gT eT ["_law_pool_here", "_law_depth"] (spTree K 4) := ok_tree GT mT GD mD B.int M.range B.tuple (ok_tree GT mT GD mD B.int M.range B.tuple (ok_tree GT mT GD mD B.int M.range B.tuple (ok_tree GT mT GD mD B.int M.range B.tuple ok_tree0)))
  have FF : FnOk P w K mg base CX0 4 gF eF ["_law_block", "_law_at", "_law_depth", "_law_count"] (spFirst K 3) := ok_first GF mF (ok_first GF mF (ok_first GF mF ok_first0))
  have FB : FnOk P w K mg base CX0 5 gB eB ["_law_block", "_law_at", "_law_odd_here", "_law_count"] (spBent K 4) := ok_bent GB mB B.tuple (ok_bent GB mB B.tuple (ok_bent GB mB B.tuple (ok_bent GB mB B.tuple ok_bent0)))
  have FM : FnOk P w K mg base CX0 5 gM eM ["_law_block"] (spMany K 4) := ok_many GM mM M.sum (ok_many GM mM M.sum (ok_many GM mM M.sum (ok_many GM mM M.sum ok_many0)))
  refine F.okG sc_law (fun vs H Q E h => ?_) (fun cdv A outer s H vs Q E hgd hr h => ?_)
  · obtain ⟨_, _, rfl, _⟩ := h
    rfl
  · obtain ⟨a, ns, rfl, hS, hlen, q⟩ := h
    have hu := hr.units
    have hr1 := hr.mono (by decide : 1 ≤ 13)
    have hr2 := hr.mono (by decide : 2 ≤ 13)
    have hr4 := hr.mono (by decide : 4 ≤ 13)
    have hr5 := hr.mono (by decide : 5 ≤ 13)
    refine ⟨_, PSs.nox (pss_cons (ps_for PassesOwn.never rfl (pi_range1 rfl M.range (pa_cons (pe_callB (call_max2 rfl) (by rfl) M.max (by decide +kernel) (pa_cons pe_int (pa_cons (pe_callB (call_min2 rfl) (by rfl) M.min (by decide +kernel) (pa_cons (pe_callB call_len (by rfl) B.len (by decide +kernel) (pa_cons (pv 0) pa_nil)) (pa_cons pe_int pa_nil))) pa_nil))) pa_nil)) (pg_name (i := 1) sc_law.nd rfl (Or.inl rfl))
        (pss_cons (ps_set (i := 2) sc_law.nd rfl (Or.inr rfl) (pe_call FP hr1 rfl mP GP.kp bP .nil pass0 (pa_cons (pv 0) (pa_cons (pv 1) pa_nil))))
      (pss_one (ps_for PassesOwn.never rfl (pi_range1 rfl M.range (pa_cons pe_int pa_nil)) (pg_name (i := 3) sc_law.nd rfl (Or.inl rfl))
        (pss_cons (ps_set (i := 4) sc_law.nd rfl (Or.inl rfl) (pe_tupleOf (by rfl) B.tuple (pe_lc (own := [("_law_place", 9)]) (g := gName 9) (tt := tYes) rfl sc_law.nd (pi_range1 rfl M.range (pa_cons (pe_op op_add pe_int (pe_call FD hr1 rfl mD GD.kp bD .nil pass0 (pa_cons (pv 2) (pa_cons pe_int pa_nil)))) pa_nil)) (blkOk_by (N := ["_law_script", "_law_k", "_law_pool_here", "_law_turn", "_law_block", "_law_at", "_law_odd_here", "_law_first_here", "_law_told_here", "_law_place"]) (sc := defScope s_law) (by decide +kernel)) (fun _ _ _ _ _ => pg_name (i := 9) sc_law.nd rfl (Or.inl rfl)) (fun _ _ _ _ _ => pts_nil) (fun _ _ _ _ _ => (pe_call FT hr5 rfl mT GT.kp bT .nil pass0 (pa_cons (pv 2) (pa_cons pe_int pa_nil)))))))
      (pss_cons (ps_par (i := 5) (j := 6) (by rfl) sc_law.nd rfl rfl (by decide) rfl rfl (pa_cons (pe_call FD hr1 rfl mD GD.kp bD .nil pass0 (pa_cons (pv 2) (pa_cons pe_int pa_nil))) (pa_cons (pe_call FO hr2 rfl mO GO.kp bO .nil pass0 (pa_cons (pv 2) pa_nil)) pa_nil)) (by rfl))
      (pss_cons (ps_set (i := 7) sc_law.nd rfl (Or.inl rfl) (pe_call FF hr4 rfl mF GF.kp bF .nil pass0 (pa_cons (pv 4) (pa_cons (pv 5) (pa_cons pe_int (pa_cons (pe_lst (pa_cons pe_int pa_nil)) pa_nil))))))
      (pss_cons (ps_set (i := 8) sc_law.nd rfl (Or.inl rfl) (pe_call FL hr rfl mL GL.kp bL .nil pass0 (pa_cons (pe_call FB hr5 rfl mB GB.kp bB .nil pass0 (pa_cons (pv 4) (pa_cons (pv 5) (pa_cons (pv 6) (pa_cons (pe_lst (pa_cons pe_int pa_nil)) pa_nil))))) pa_nil)))
      (pss_cons (ps_if (pt_cmpR (op_neD hu) (pv 8) (pe_ifExp (pt_cmp (pc_isN (pv 7))) pe_str (pe_lst (pa_cons pe_str (pa_cons (pv 7) pa_nil)))) (nomark _)) (pss_one (ps_ret pe_bl)) pss_nil)
      (pss_cons (ps_set (i := 7) sc_law.nd rfl (Or.inl rfl) (pe_call FF hr4 rfl mF GF.kp bF .nil pass0 (pa_cons (pv 4) (pa_cons (pe_un un_neg pe_int) (pa_cons pe_int (pa_cons (pe_lst (pa_cons pe_int pa_nil)) pa_nil))))))
      (pss_one (ps_if (pt_cmpR (op_neD hu) (pe_call FL hr rfl mL GL.kp bL .nil pass0 (pa_cons (pe_op op_catT (pv 4) (pe_tup (pa_cons (pe_tup (pa_cons pe_str (pa_cons pe_str (pa_cons pe_str pa_nil)))) pa_nil))) pa_nil)) (pe_ifExp (pt_cmp (pc_notN (pv 7))) (pe_lst (pa_cons pe_str (pa_cons (pv 7) pa_nil))) (pe_ifExp (pt_cmpR op_ge (pe_call FM hr5 rfl mM GM.kp bM .nil pass0 (pa_cons (pv 4) pa_nil)) pe_int (nomark _)) (pe_lst (pa_cons pe_str (pa_cons pe_int pa_nil))) pe_str)) (nomark _)) (pss_one (ps_ret pe_bl)) pss_nil))))))))))))
      (pss_one (ps_ret pe_bl))), ?_⟩
    have hJ : ∀ L : Int, 1 ≤ (if (if (8 : Int) < L then 8 else L) > 1 then (if (8 : Int) < L then 8 else L) else 1) ∧ (if (if (8 : Int) < L then 8 else L) > 1 then (if (8 : Int) < L then 8 else L) else 1) ≤ 8 := fun L => by
      split <;> split <;> omega
    refine ⟨_, rfl, _, (ns.map V.int).length, rfl, .inl ⟨_, hS, rfl⟩, _, _, rfl, _, _, rfl, _, rfl, (by have := (hJ ((ns.map V.int).length : Int)).1; omega), (by have := (hJ ((ns.map V.int).length : Int)).2; omega), for_range
      (fun _ σ Hc => Same H Hc ∧ ∃ o1 o2 o3 o4 o5 o6 o7 o8 o9, σ = [some (.ref a), o1, o2, o3, o4, o5, o6, o7, o8, o9]) ⟨Same.refl H, _, _, _, _, _, _, _, _, _, rfl⟩ ?_ ?_⟩
    · rintro i σ Hc hi ⟨ec, o1, o2, o3, o4, o5, o6, o7, o8, o9, rfl⟩
      have hi8 : i < 8 := by
        have := (hJ ((ns.map V.int).length : Int)).2
        omega
      refine ⟨_, rfl, _, rfl, a, ns, _, rfl, ec.seq hS, by omega, by omega, by omega, fun p c z hp hz0 hz1 => ?_⟩
      refine ⟨6, rfl, by decide, by decide, for_range
        (fun _ σ G => Same Hc G ∧ IsPool G p ∧ ∃ o3 o4 o5 o6 o7 o8 o9, σ = [some (.ref a), some (.int (0 + (i : Int))), some (.ref p), o3, o4, o5, o6, o7, o8, o9]) ⟨Same.new' hp, IsPool.of hz0 hz1, _, _, _, _, _, _, _, rfl⟩ ?_ ?_⟩
      · rintro i2 σ G hi2 ⟨sG, hG, o3, o4, o5, o6, o7, o8, o9, rfl⟩
        refine ⟨_, rfl, p, 5, rfl, hG, by decide, by decide, fun cnt c2 z2 n0 n1 y0 y1 => ?_⟩
        have hG2 : IsPool (upd G p (poolO c2 z2)) p := IsPool.of y0 y1
        have sG2 : Same Hc (upd G p (poolO c2 z2)) := sG.mut hp
        generalize upd G p (poolO c2 z2) = G2 at hG2 sG2 ⊢
        refine ⟨_, _, rfl, rfl, 1 + cnt, rfl, by omega, by omega, fun D hD => ?_⟩
        have hDp : D ≠ p := hG2.none hD
        refine lc_it (walk_range (lo := 0) (n := (1 + cnt).toNat)) (fun j H' => ∃ (vs : List V) (ds : List PyData), H' D = some (.lst vs) ∧ vs.length = j ∧ IsPool H' p ∧ (∀ b o, b ≠ p → G2 b = some o → H' b = some o) ∧ DqA K (hid D (newOf G2 H')) vs ds ∧ ∀ d ∈ ds, Tr leaves 3 d) ?_ (fun _ _ _ _ => trivial) ?_ ?_
        · refine ⟨[], [], upd_same, rfl, hG2.up (Same.new' hD), fun b o _ e => (Same.new' hD) b o e, .nil, fun d h => by cases h⟩
        · rintro j x H1 H2 hj ⟨vs, ds, hl, hlen', hp1, hk1, hd1, ht1⟩ ⟨rfl, rfl⟩
          refine ⟨rfl, ?_⟩
          refine ⟨_, rfl, p, 3, rfl, rfl, hp1, fun v d H3 htd hs3 hp3 hd3 => ?_⟩
          have hk3 : ∀ b o, b ≠ p → H2 b = some o → H3 b = some o := fun b o hb e => (hid_some (hs3 b o (hid_at e hb))).2
          refine ⟨vs, hk3 _ _ hDp hl, ?_, vs ++ [v], ds ++ [d], upd_same, by simp [hlen'], ?_, fun b o hb e => ?_, DqA.app (hd1.up ?_) (.cons (hd3.up ?_) .nil), fun e he => ?_⟩
          · rw [hlen']
            exact Nat.lt_of_lt_of_le (show j < 100 by omega) (by decide)
          · obtain ⟨cc, zz, hh, rest⟩ := hp3
            exact ⟨cc, zz, by rw [upd_ne (Ne.symm hDp)]; exact hh, rest⟩
          · rw [upd_ne (ne_of_none e hD)]
            exact hk3 b o hb (hk1 b o hb e)
          · intro b o e
            obtain ⟨a1, a2⟩ := hid_some e
            obtain ⟨a3, a4⟩ := newOf_some a2
            refine hid_at (newOf_of a3 ?_) a1
            rw [upd_ne a1]
            exact hk3 b o (hG2.none a3) a4
          · intro b o e
            obtain ⟨a3, a4⟩ := newOf_some e
            have a1 : b ≠ D := fun z => by rw [z, hl] at a3; cases a3
            have a5 : G2 b = none := by
              cases e2 : G2 b with
              | none => rfl
              | some u =>
                rw [hk1 b u (hp1.none a3) e2] at a3
                cases a3
            refine hid_at (newOf_of a5 ?_) a1
            rw [upd_ne a1]
            exact a4
          · rcases List.mem_append.mp he with he | he
            · exact ht1 e he
            · cases List.mem_singleton.mp he
              exact htd
        · rintro H1 ⟨vs, ds, hl, hlen', hp1, hk1, hd1, ht1⟩
          have edl := hd1.len
          have hlen5 : ds.length ≤ 5 := by omega
          have vne : vs ≠ [] := fun e => by rw [e] at hlen'; simp at hlen'; omega
          have sH1 : Same Hc H1 := fun b o e => hk1 b o (ne_of_none e hp) (sG2 b o e)
          refine .inl ⟨D, _, rfl, SqL.of hl, fun t0 h0 => ?_⟩
          have u1 : Same H1 (upd H1 t0 (.tup vs)) := Same.new' h0
          have ht0 : upd H1 t0 (.tup vs) t0 = some (.tup vs) := upd_same
          have hNB : DqA K (hid p (upd H1 t0 (.tup vs))) vs ds := hd1.up fun b o e => by
            obtain ⟨a1, a2⟩ := hid_some e
            obtain ⟨a3, a4⟩ := newOf_some a2
            exact hid_at (u1 b o a4) (hG2.none a3)
          have t0p : t0 ≠ p := hp1.none h0
          have hp2 := hp1.up u1
          have sH2 := sH1.trans u1
          generalize upd H1 t0 (.tup vs) = H2 at u1 ht0 hNB hp2 sH2 ⊢
          refine ⟨_, rfl, p, 16, rfl, hp2, by decide, by decide, fun at_ c3 z3 a0 a1 w0 w1 => ?_⟩
          refine ⟨_, rfl, p, rfl, IsPool.of w0 w1, fun vo odd H3 ho s3 hp3 hvo => ?_⟩
          rw [hid_upd] at s3
          have hblk : Dq K (hid p H3) (.ref t0) (.tuple ds) := (Dq.tup (SqT.of (hid_at ht0 t0p)) hNB).up s3
          have ht3 : H3 t0 = some (.tup vs) := (hid_some (s3 _ _ (hid_at ht0 t0p))).2
          have sH3 : Same Hc H3 := fun b o e => (hid_some (s3 b o (hid_at (sH2 b o e) (ne_of_none e hp)))).2
          refine ⟨_, _, rfl, ?_⟩
          refine ⟨_, rfl, _, rfl, (by show 1 ≤ sizeLine; decide), fun ca hca => ?_⟩
          have N3 : Same (hid p H3) H3 := hid_in
          have u4 : Same H3 (upd H3 ca (.lst [.int 0])) := Same.new' hca
          have hca4 : upd H3 ca (.lst [.int 0]) ca = some (.lst [.int 0]) := upd_same
          generalize upd H3 ca (.lst [.int 0]) = H4 at u4 hca4 ⊢
          refine ⟨2, _, ds, at_, 0, 0, ca, hid p H3, rfl, rfl, rfl, by decide, N3.trans u4, hid_none hca, hblk, ht1, hca4, fun H5 k5 kH5 hc5 _ => ?_⟩
          have u5 : Same H3 H5 := fun b o e => kH5 b o (ne_of_none e hca) (u4 b o e)
          refine ⟨_, rfl, _, rfl, _, rfl, (by show 1 ≤ sizeLine; decide), fun cb hcb => ?_⟩
          have u6 : Same H5 (upd H5 cb (.lst [.int 0])) := Same.new' hcb
          have hcb6 : upd H5 cb (.lst [.int 0]) cb = some (.lst [.int 0]) := upd_same
          generalize upd H5 cb (.lst [.int 0]) = H6 at u6 hcb6 ⊢
          have hNcb : hid p H3 cb = none := hid_none (u5.free hcb)
          refine ⟨3, _, vo, ds, odd, at_, 0, cb, hid p H3, rfl, by decide, rfl, (N3.trans u5).trans u6, hNcb, hblk, hvo, by omega, ht1, hcb6, fun u H7 kH7 hc7 hu7 => ?_⟩
          have hu7' := hu7.up (mix_hp ((N3.trans u5).trans u6) hNcb kH7)
          have u7 : Same H5 H7 := fun b o e => kH7 b o (ne_of_none e hcb) (u6 b o e)
          obtain ⟨b1, b2⟩ := ben_tr (at_ := at_) ho 3 ds 0 ht1
          obtain ⟨T1, T2, T3⟩ := told1 (at_ := at_) hlen5 ht1 ho
          refine ⟨u, _, rfl, hu7', tr_top (by rw [b1]; omega) b2, T2, T3, fun u2 H8 s8 hu8 => ?_⟩
          rw [T1] at hu8
          have u8 : Same H3 H8 := (u5.trans u7).trans s8
          obtain ⟨A1, A2⟩ := ans_sm (fir 3 at_ ds 0 0).1
          refine ⟨_, rfl, made_run (K := K) rfl fun y9 H9 s9 hy9 => ?_⟩
          refine ⟨_, _, (hu8.up s9).dp A1, hy9.dp A1, A2, A2, _, rfl, ?_⟩
          rw [eqv_refl _ A1]
          refine iteF ?_
          have u9 : Same H3 H9 := u8.trans s9
          refine ⟨_, rfl, 1, rfl, (by show 1 ≤ sizeLine; decide), fun cd hcd => ?_⟩
          have u10 : Same H9 (upd H9 cd (.lst [.int 0])) := Same.new' hcd
          have hcd10 : upd H9 cd (.lst [.int 0]) cd = some (.lst [.int 0]) := upd_same
          generalize upd H9 cd (.lst [.int 0]) = H10 at u10 hcd10 ⊢
          refine ⟨2, _, ds, -1, 0, 0, cd, hid p H3, rfl, rfl, rfl, by decide, (N3.trans u9).trans u10, hid_none (u9.free hcd), hblk, ht1, hcd10, fun H11 k11 kH11 hc11 _ => ?_⟩
          have u11 : Same H3 H11 := fun b o e => kH11 b o (ne_of_none (u9 b o e) hcd) (u10 b o (u9 b o e))
          obtain ⟨T4, T5, T6⟩ := told2 ht1
          obtain ⟨A3, A4⟩ := ans2_sm (fir 3 (-1) ds 0 0).1 (man 4 ds)
          refine ⟨_, rfl, (by show 3 ≤ sizeLine; decide), fun q1 hq1 => ⟨(by show 1 ≤ sizeLine; decide), fun q2 hq2 => ?_⟩⟩
          have v1 : Same H11 (upd H11 q1 (.tup [.str "call", .str "none", .str "none"])) := Same.new' hq1
          have hq1' : upd H11 q1 (.tup [.str "call", .str "none", .str "none"]) q1 = some (.tup [.str "call", .str "none", .str "none"]) := upd_same
          generalize upd H11 q1 (.tup [.str "call", .str "none", .str "none"]) = J1 at v1 hq1' hq2 ⊢
          have hcl : Dq K J1 (.ref q1) callN := .tup (SqT.of hq1') (.cons (.str "call" (by decide)) (.cons (.str "none" (by decide)) (.cons (.str "none" (by decide)) .nil)))
          have v2 : Same J1 (upd J1 q2 (.tup [.ref q1])) := Same.new' hq2
          have hq2' : upd J1 q2 (.tup [.ref q1]) q2 = some (.tup [.ref q1]) := upd_same
          generalize upd J1 q2 (.tup [.ref q1]) = J2 at v2 hq2' ⊢
          have w2 : Same H3 J2 := u11.trans (v1.trans v2)
          refine ⟨t0, q2, vs, [.ref q1], rfl, rfl, SqT.of (w2 _ _ ht3), SqT.of hq2', vne, ?_, (fun e => by cases e), fun _ q3 hq3 => ?_⟩
          · exact Nat.le_trans (show vs.length + [V.ref q1].length ≤ 10 by show vs.length + 1 ≤ 10; omega) (by decide)
          · have v3 : Same J2 (upd J2 q3 (.tup (vs ++ [.ref q1]))) := Same.new' hq3
            have hq3' : upd J2 q3 (.tup (vs ++ [.ref q1])) q3 = some (.tup (vs ++ [.ref q1])) := upd_same
            generalize upd J2 q3 (.tup (vs ++ [.ref q1])) = J3 at v3 hq3' ⊢
            have w3 := w2.trans v3
            have hvs3 : DqA K J3 vs ds := hNB.up (s3.trans (N3.trans w3))
            have hdd : Dq K J3 (.ref q3) (.tuple (ds ++ [callN])) := .tup (SqT.of hq3') (DqA.app hvs3 (.cons (hcl.up (v2.trans v3)) .nil))
            refine ⟨_, _, rfl, hdd, sm_second hlen5 ht1, T5, T6, fun u3 J4 s4 hu3 => ?_⟩
            rw [T4] at hu3
            have w4 := w3.trans s4
            refine ans2_run (K := K) rfl rfl (N3.trans w4) hblk (by omega) ht1 fun y10 J5 s5 hy10 => ?_
            refine ⟨_, _, (hu3.up s5).dp A3, hy10.dp A3, A4, A4, _, rfl, ?_⟩
            rw [eqv_refl _ A3]
            exact iteF ⟨sH3.trans (w4.trans s5), hp3.up (w4.trans s5), _, _, _, _, _, _, _, rfl⟩
      · rintro σ G ⟨sG, hG, o3, o4, o5, o6, o7, o8, o9, rfl⟩
        exact ⟨ec.trans sG, _, _, _, _, _, _, _, _, _, rfl⟩
    · rintro σ Hc ⟨_, o1, o2, o3, o4, o5, o6, o7, o8, o9, rfl⟩
      exact q _
end
end K07
namespace MCH
open PySem PySem.Spec PyProof.Rows L2 He PySem.W PySem.MCX PySem.MEX
/-! ### the hook with errors over any base, properties and tables -/
abbrev AlQ : Type := AlP × List FnV × List (Option (List (Option (Str × Int))))
def obsQ (n : Nat) (prog : Program) (bm : String → List Value) (fa : List Fa) (fn : List DefD) (xs : List XD) (ps : List PD) (es : List ED) (ts : List He.Tab) (ex : Frag → Bool) (g : Addr → Option Obj) : AlQ :=
  (obsP n prog fa fn xs ps (fun K => (es.all fun x => eB prog bm K x) && ex K) g, es.map (fun x => fnE (frG g (asM g n)) x), ts.map fun t => He.dicW (frG g (asM g n)) (t.1 (frG g (asM g n))))
def valQ (fn : List DefD) (xs : List XD) (ps : List PD) (es : List ED) (ts : List He.Tab) (w : World) : AlQ := (valP fn xs ps, es.map ED.val, ts.map fun t => some (He.keysIn w.params t.2))
structure SaysQ (prog : Program) (bm : String → List Value) (fa : List Fa) (fn : List DefD) (xs : List XD) (ps : List PD) (es : List ED) (ts : List He.Tab) (ex : Frag → Bool) (w : World) (K : Frag) : Prop where
  p : SaysP prog fa fn xs ps (fun K => (es.all fun x => eB prog bm K x) && ex K) K
  x : ∀ x ∈ es, eB prog bm K x = true ∧ fnE K x = x.val
  t : ∀ t ∈ ts, He.dicW K (t.1 K) = some (He.keysIn w.params t.2)
  e : ex K = true
theorem saysQ_of {n : Nat} {prog : Program} {bm : String → List Value} {fa : List Fa} {fn : List DefD} {xs : List XD} {ps : List PD} {es : List ED} {ts : List He.Tab} {ex : Frag → Bool} {w : World} {g : Addr → Option Obj} (e : obsQ n prog bm fa fn xs ps es ts ex g = valQ fn xs ps es ts w) : SaysQ prog bm fa fn xs ps es ts ex w (frG g (asM g n)) := by
  have e1 := congrArg (fun z : AlQ => z.1) e
  have e2 := congrArg (fun z : AlQ => z.2.1) e
  have e3 := congrArg (fun z : AlQ => z.2.2) e
  have c := saysP_of e1
  obtain ⟨b1, b2⟩ := ba c.m.e
  exact ⟨c, fun x hx => ⟨List.all_eq_true.mp b1 x hx, map_eq_at e2 x hx⟩, fun t ht => map_eq_at e3 t ht, b2⟩
def hookQ (n : Nat) (prog : Program) (bm : String → List Value) (fa : List Fa) (fn : List DefD) (xs : List XD) (ps : List PD) (es : List ED) (ts : List He.Tab) (ex : Frag → Bool) : PySem.W.Hook where
  α := AlQ
  obs := fun s => obsQ n prog bm fa fn xs ps es ts ex s.heap.get?
  val := fun w => valQ fn xs ps es ts w
  says := fun w h => ∃ K : PySem.W.Frag, K.In h ∧ SaysQ prog bm fa fn xs ps es ts ex w K
  of := fun _ _ e => ⟨_, frG_in, saysQ_of e⟩
  keeps := fun _ _ _ ⟨K, hK, c⟩ k => ⟨K, PySem.W.Frag.In.keeps hK k, c⟩
theorem obsQ_eq {n : Nat} {prog : Program} {bm : String → List Value} {fa : List Fa} {fn : List DefD} {xs : List XD} {ps : List PD} {es : List ED} {ts : List He.Tab} {ex : Frag → Bool} {g : Addr → Option Obj} {s : Shared} (h : ∀ a, g a = s.heap.get? a) : obsQ n prog bm fa fn xs ps es ts ex g = (hookQ n prog bm fa fn xs ps es ts ex).obs s := by
  have e : g = s.heap.get? := funext h
  rw [e] <;> rfl
end MCH
namespace K07
open PySem PySem.Spec PyProof.Rows L2
/-! ### the head: facts by names, the run -/
abbrev gd (x : Str) (st : Stmt) : He.DefD := ⟨(x, none), x, x, defArgs st, defBody st, defScope st, [], []⟩
def endA (K : PySem.W.Frag) : Addr := match K.lookup (He.ma K (He.ga K "Policy") "__init__") with
  | some ⟨_, _, .func fd, _⟩ => (match fd.kwdefaults with
    | .ref D => (match PySem.W.nsIn K D "ending" with
      | some (some (.ref a)) => a
      | _ => 0)
    | _ => 0)
  | _ => 0
abbrev pd : He.DefD := ⟨("Policy", some "__init__"), "__init__", "Policy.__init__", defArgs s_Policy_init, defBody s_Policy_init, defScope s_Policy_init, [], [("tries", .int 1), ("pauses", .non), ("early", .non), ("lossy", .bl false), ("ending", .adr endA)]⟩
abbrev sd : He.DefD := ⟨("System", some "__init__"), "__init__", "System.__init__", defArgs s_System_init, defBody s_System_init, defScope s_System_init, [], []⟩
def bmF (s : String) : List Value := if s = "ValueError" then PySem.MEX.bmV else if s = "LookupError" then PySem.MEX.bmL else PySem.MEX.bmO
def fn : List He.DefD := [gd "is_integer" s_is_integer, gd "is_between" s_is_between, gd "is_name" s_is_name, gd "is_block" s_is_block, gd "is_part" s_is_part, gd "is_call" s_is_call, gd "blocks_of" s_blocks_of, gd "numbered" s_numbered, gd "parts_of" s_parts_of, gd "block_span" s_block_span, gd "part_span" s_part_span, gd "is_ending" s_is_ending, gd "are_pauses" s_are_pauses, gd "wrong_field" s_wrong_field, gd "check_policies" s_check_policies, gd "check_services" s_check_services, gd "check_block" s_check_block, gd "_law_pool" s_law_pool, gd "_law_draw" s_law_draw, gd "_law_told" s_law_told, gd "_law_odd" s_law_odd, gd "_law_tree" s_law_tree, gd "_law_bent" s_law_bent, gd "_law_first" s_law_first, gd "_law_many" s_law_many, gd "law" s_law, pd, sd]
def fa : List He.Fa := [.glo "is_integer", .glo "is_between", .glo "is_name", .glo "is_block", .glo "is_part", .glo "is_call", .glo "blocks_of", .glo "numbered", .glo "parts_of", .glo "block_span", .glo "part_span", .glo "is_ending", .glo "are_pauses", .glo "wrong_field", .glo "check_policies", .glo "check_services", .glo "check_block", .glo "_law_pool", .glo "_law_draw", .glo "_law_told", .glo "_law_odd", .glo "_law_tree", .glo "_law_bent", .glo "_law_first", .glo "_law_many", .glo "law", .glo "Policy", .glo "System", .glo "SIZES", .free "len", .free "isinstance", .free "int", .free "bool", .free "str", .free "all", .free "tuple", .free "max", .free "min", .free "range", .free "sum", .free "list", .free "enumerate", .int "MAX_LIMIT" 20, .int "MAX_TRIES" 3, .int "MAX_PAUSE" 8, .int "MAX_DELAY" 20, .int "MAX_LETTERS" 8, .int "MAX_RUN" 20, .int "MAX_DEPTH" 3, .int "MAX_POLICIES" 8, .int "MAX_SERVICES" 6, .int "MAX_PARTS" 12, .int "MAX_SPAN" 400, .str "LETTERS" "abcdefghijklmnopqrstuvwxyz", .str "GO" "go", .str "STOP" "stop", .str "DEADLINE" "deadline", .cls "Policy", .mkr "Policy", .cls "System", .mkr "System", .noat "Policy" "own_name", .noat "Policy" "own_limit", .noat "Policy" "own_tries", .noat "Policy" "own_pauses", .noat "Policy" "own_early", .noat "Policy" "own_lossy", .noat "Policy" "own_ending", .noat "System" "own_policies", .noat "System" "own_blocks"]
def xN : MCH.XD := ⟨"InvalidName", "value", inClass (top 2) 0⟩
def xP : MCH.XD := ⟨"InvalidPolicy", "field", inClass (top 3) 0⟩
def xPt : MCH.ED := ⟨"InvalidPart", ["service", "place"], "ValueError", inClass (top 6) 0⟩
def xU : MCH.ED := ⟨"UnknownName", ["value"], "LookupError", inClass (top 7) 0⟩
def xT : MCH.ED := ⟨"TooLong", ["service"], "OverflowError", inClass (top 8) 0⟩
def pp (x : Str) (q : Str) (i : Nat) : MCH.PD := ⟨"Policy", x, q, inClass (top 39) i⟩
def pps : List MCH.PD := [pp "name" "Policy.name" 1, pp "limit" "Policy.limit" 2, pp "tries" "Policy.tries" 3, pp "pauses" "Policy.pauses" 4, pp "early" "Policy.early" 5, pp "lossy" "Policy.lossy" 6, pp "ending" "Policy.ending" 7, pp "longest" "Policy.longest" 10]
def szK : List Str := ["run", "risk", "call", "want", "maybe", "both"]
def szV : List (Str × He.Dv) := [("run", .int 3), ("risk", .int 1), ("call", .int 3), ("want", .int 3), ("maybe", .int 2), ("both", .int 3)]
def ts : List He.Tab := [(fun K => He.ga K "SIZES", szK)]
def endB (K : PySem.W.Frag) : Bool := match K.lookup (endA K) with
  | some ⟨.type c, _, .seq its _, _⟩ => decide (c = "tuple") && (decide (its.size ≤ sizeLine) && He.relAll [.str "go"] its.toList)
  | _ => false
def ex0 (K : PySem.W.Frag) : Bool := He.valsB K (He.ga K "SIZES") szV && (decide (PySem.W.kitOne K (.ref (He.ga K "Policy")) (.ref (He.ga K "Policy")) = some true) && (decide (PySem.W.exmOne K (.ref (He.ga K "UnknownName")) (.ref (He.ga K "InvalidPart")) = some false) &&
  ((decide (PySem.W.exmOne K (.ref (He.ga K "InvalidPart")) (.ref (He.ga K "InvalidPart")) = some true) && (decide (PySem.W.exmOne K (.ref (He.ga K "UnknownName")) (.ref (He.ga K "UnknownName")) = some true) && decide (PySem.W.exmOne K (.ref (He.ga K "TooLong")) (.ref (He.ga K "TooLong")) = some true))) &&
  ((decide (PySem.W.typeIn K (.ref (He.ga K "InvalidPart")) = some (.type "type")) && (decide (PySem.W.typeIn K (.ref (He.ga K "UnknownName")) = some (.type "type")) && decide (PySem.W.typeIn K (.ref (He.ga K "TooLong")) = some (.type "type")))) &&
  ((He.eqO (PySem.W.findIn K (.ref (He.ga K "Policy")) "__class__") (some (some (.builtin "object.__class__"))) && (He.eqO (PySem.W.specialIn K (.builtin "object.__class__") "__get__") (some (some (.builtin "getset_descriptor.__get__"))) && (decide (PySem.W.takesIn K (.builtin "object.__class__") = some true) && decide (PySem.W.mroIn K (He.ga K "Policy") (.type "object") = some true)))) && endB K)))))
abbrev R : PySem.W.OpenRow := PySem.W.OpenLaw.row PySem.Challenge.rw_mostcalls_k07_parts_refused
abbrev es : List MCH.ED := [xPt, xU, xT]
abbrev hk : PySem.W.Hook := MCH.hookQ 7 R.prog bmF fa fn [xN, xP] pps es ts ex0
def ob (s : PySem.W.SharedT) : MCH.AlQ := MCH.obsQ 7 R.prog bmF fa fn [xN, xP] pps es ts ex0 (HandSHeadRun.getT s)
theorem ob_eq (s : PySem.W.SharedT) : ob s = hk.obs s.abs := MCH.obsQ_eq (HandSHeadRun.getT_eq s)
def names : List Str := (["_wall", "InvalidName", "InvalidPolicy", "InvalidPolicies", "InvalidServices", "InvalidPart", "UnknownName", "TooLong", "LETTERS", "MAX_LETTERS", "is_integer", "is_between"] : List Str) ++ (["is_name", "MAX_RUN", "MAX_DEPTH", "SIZES", "is_block", "is_part", "is_call", "blocks_of", "numbered", "parts_of", "block_span", "part_span"] : List Str) ++ (["MAX_LIMIT", "MAX_TRIES", "MAX_PAUSE", "MAX_DELAY", "FIELDS", "GO", "STOP", "DEADLINE", "is_ending", "are_pauses", "wrong_field", "Policy"] : List Str) ++ (["MAX_POLICIES", "MAX_SERVICES", "MAX_PARTS", "MAX_SPAN", "check_policies", "check_services", "check_block", "System", "_law_pool", "_law_draw", "_law_told", "_law_odd"] : List Str) ++ (["_law_tree", "_law_bent", "_law_first", "_law_many"] : List Str)
theorem run_false (w : World) : HandSHeadRun.RunEq R (PySem.W.view R.prog [58]) hk ob 20000 names (w.withFollow "special-get-raises" false) := by
  intro os
  kernel_rfl
theorem run_true (w : World) : HandSHeadRun.RunEq R (PySem.W.view R.prog [58]) hk ob 20000 names (w.withFollow "special-get-raises" true) := by
  intro os
  kernel_rfl
theorem run (w : World) : HandSHeadRun.RunEq R (PySem.W.view R.prog [58]) hk ob 20000 names w := by
  have e := World.withFollow_self w "special-get-raises"
  cases hb : w.params.followText "special-get-raises" <;> rw [hb] at e
  · rw [← e]
    exact run_false w
  · rw [← e]
    exact run_true w
theorem endB_ok {K : PySem.W.Frag} (h : endB K = true) (H : Hp) : SqT K H (endA K) [.str "go"] := by
  unfold endB at h
  cases q : K.lookup (endA K) with
  | none => rw [q] at h; cases h
  | some o =>
    obtain ⟨oc, od, dt, osl⟩ := o
    rw [q] at h
    cases oc with
    | type c =>
      cases dt with
      | seq its n =>
        obtain ⟨h1, h2⟩ := He.ba (show (decide (c = "tuple") && (decide (its.size ≤ sizeLine) && He.relAll [.str "go"] its.toList)) = true from h)
        obtain ⟨h3, h4⟩ := He.ba h2
        exact .inr ⟨_, its, n, q, congrArg Value.type (of_decide_eq_true h1), rfl, of_decide_eq_true h3, He.relAll_ok h4⟩
      | _ => cases h
    | _ => cases dt <;> cases h
theorem getter {P : Program} {w : World} {K : PySem.W.Frag} {mg : Str → Option Value} {base : Heap} {f C : Addr} {fd : FuncData} {x q fld : Str} {sm : Stmt} {p1 p2 p3 : Pos} (F : FunD K x q (defArgs sm) (defBody sm) (defScope sm) [] [] f fd) (S : FnScope ["self"] ["self"] (defScope sm))
    (hb : defBody sm = [.Return (some (.Attribute (.Name "self" p1) fld p2)) p3]) (c : Cls K C) (n : NoAttr K C fld) : FnOk P w K mg base CX0 1 f fd ["self"] (getSp C fld) := by
  obtain ⟨oc, od, dV, kV, doc, pm, an, cdv, ct, osl, rfl, lk, hcd, _, _⟩ := F.ex
  exact fn_getter lk hcd S rfl hb c n
theorem fokE_value : PySem.MEX.FOk1 "value" := ⟨by decide, rfl, by decide, rfl, rfl, fun _ _ _ _ _ _ _ _ _ _ _ _ => rfl, fun _ _ _ _ _ _ _ _ _ _ _ _ => rfl⟩
theorem fokE_service : PySem.MEX.FOk1 "service" := ⟨by decide, rfl, by decide, rfl, rfl, fun _ _ _ _ _ _ _ _ _ _ _ _ => rfl, fun _ _ _ _ _ _ _ _ _ _ _ _ => rfl⟩
theorem fokE2 : PySem.MEX.FOk2 "service" "place" := ⟨by decide, rfl, by decide, by decide, rfl, by decide, by decide, rfl, rfl, fun _ _ _ _ _ _ _ _ _ _ _ _ _ _ => rfl, fun _ _ _ _ _ _ _ _ _ _ _ _ _ _ => rfl⟩
theorem keys_none {W : Params} {k : Str} : ∀ {l : List DictEntry} {ks : List Str}, l.map He.keyOf = He.keysIn W ks → k ∉ ks → l.find? (·.key.isStr k) = none ∧ l.any (·.refKey) = false
  | [], _, _, _ => ⟨rfl, rfl⟩
  | e :: r, [], h, _ => by cases h
  | e :: r, x :: ks, h, hk => by
    have h1 : He.keyOf e :: r.map He.keyOf = some (x, PyData.keyHash W x) :: He.keysIn W ks := h
    injection h1 with h2 h3
    obtain ⟨i1, i2⟩ := keys_none h3 (fun z => hk (List.mem_cons_of_mem _ z))
    have hx : ∃ t, e.key = .str x t := by
      unfold He.keyOf at h2
      split at h2
      · rename_i y t q
        have h4 := Option.some.inj h2
        obtain ⟨h5, h6⟩ := Prod.mk.inj h4
        exact ⟨t, by rw [q, h5]⟩
      · cases h2
    obtain ⟨t, ek⟩ := hx
    have ne : (x == k) = false := by
      rw [beq_eq_false_iff_ne]
      intro z
      exact hk (by rw [z]; exact List.mem_cons_self ..)
    constructor
    · rw [List.find?_cons_of_neg]
      · exact i1
      · rw [ek]
        show ¬ (x == k) = true
        rw [ne]
        exact Bool.false_ne_true
    · rw [List.any_cons, i2]
      unfold DictEntry.refKey
      rw [ek]
      rfl
theorem ns_none {K : PySem.W.Frag} {w : World} {a : Addr} {ks : List Str} {k : Str} (h : He.dicW K a = some (He.keysIn w.params ks)) (hk : k ∉ ks) : PySem.W.nsIn K a k = some none := by
  obtain ⟨es, n, D⟩ := He.dicW_ok h
  have e : es.toList.map He.keyOf = He.keysIn w.params ks := by
    unfold He.dicW at h
    rw [D.at_] at h
    dsimp only at h
    split at h
    · exact Option.some.inj h
    · cases h
  obtain ⟨i1, i2⟩ := keys_none e hk
  unfold PySem.W.nsIn
  rw [D.at_]
  dsimp only
  rw [i1, i2]
  rfl
theorem tab_sz {K : PySem.W.Frag} {w : World} {a : Addr} (h : He.dicW K a = some (He.keysIn w.params szK)) (v : He.valsB K a szV = true) : KTab K w a sizesV := by
  refine ⟨He.dicW_ok h, fun k => ?_⟩
  have V := fun q hq => He.valsB_ok v (q := q) hq
  unfold sizesV sizes
  split
  · rename_i e
    split at e
    · cases e
    split at e
    · cases e
    split at e
    · cases e
    split at e
    · cases e
    split at e
    · cases e
    split at e
    · cases e
    refine ns_none h ?_
    simp only [szK, List.mem_cons, List.not_mem_nil, or_false, not_or]
    exact ⟨by assumption, by assumption, by assumption, by assumption, by assumption, by assumption⟩
  · rename_i u e
    split at e
    · rename_i z; cases e; subst z; exact V ("run", .int 3) (by simp [szV])
    split at e
    · rename_i z; cases e; subst z; exact V ("risk", .int 1) (by simp [szV])
    split at e
    · rename_i z; cases e; subst z; exact V ("call", .int 3) (by simp [szV])
    split at e
    · rename_i z; cases e; subst z; exact V ("want", .int 3) (by simp [szV])
    split at e
    · rename_i z; cases e; subst z; exact V ("maybe", .int 2) (by simp [szV])
    split at e
    · rename_i z; cases e; subst z; exact V ("both", .int 3) (by simp [szV])
    cases e
theorem facts {w : World} {K : PySem.W.Frag} {h : Heap} {mg : Str → Option Value} {f : Addr} (X : K.In h) (G : h.Ns mainGlobals mg) (hfa : mg ("law" : Str) = some (.ref f)) (c : MCH.SaysQ R.prog bmF fa fn [xN, xP] pps es ts ex0 w K) :
    ∃ fd : FuncData, (∀ (s : Shared) (v : Value), BindsTo s fd ⟨[v], []⟩ [("_law_script", v)]) ∧ ∀ base : Heap, K.In base → base.Ns mainGlobals mg → FnG R.prog w K mg base CX0 14 f fd ["_law_script"] (spLaw K) := by
  obtain ⟨e0, F0⟩ := c.p.m.d.def_ 0 (d := gd "is_integer" s_is_integer) rfl
  obtain ⟨e1, F1⟩ := c.p.m.d.def_ 1 (d := gd "is_between" s_is_between) rfl
  obtain ⟨e2, F2⟩ := c.p.m.d.def_ 2 (d := gd "is_name" s_is_name) rfl
  obtain ⟨e3, F3⟩ := c.p.m.d.def_ 3 (d := gd "is_block" s_is_block) rfl
  obtain ⟨e4, F4⟩ := c.p.m.d.def_ 4 (d := gd "is_part" s_is_part) rfl
  obtain ⟨e5, F5⟩ := c.p.m.d.def_ 5 (d := gd "is_call" s_is_call) rfl
  obtain ⟨e6, F6⟩ := c.p.m.d.def_ 6 (d := gd "blocks_of" s_blocks_of) rfl
  obtain ⟨e7, F7⟩ := c.p.m.d.def_ 7 (d := gd "numbered" s_numbered) rfl
  obtain ⟨e8, F8⟩ := c.p.m.d.def_ 8 (d := gd "parts_of" s_parts_of) rfl
  obtain ⟨e9, F9⟩ := c.p.m.d.def_ 9 (d := gd "block_span" s_block_span) rfl
  obtain ⟨e10, F10⟩ := c.p.m.d.def_ 10 (d := gd "part_span" s_part_span) rfl
  obtain ⟨e11, F11⟩ := c.p.m.d.def_ 11 (d := gd "is_ending" s_is_ending) rfl
  obtain ⟨e12, F12⟩ := c.p.m.d.def_ 12 (d := gd "are_pauses" s_are_pauses) rfl
  obtain ⟨e13, F13⟩ := c.p.m.d.def_ 13 (d := gd "wrong_field" s_wrong_field) rfl
  obtain ⟨e14, F14⟩ := c.p.m.d.def_ 14 (d := gd "check_policies" s_check_policies) rfl
  obtain ⟨e15, F15⟩ := c.p.m.d.def_ 15 (d := gd "check_services" s_check_services) rfl
  obtain ⟨e16, F16⟩ := c.p.m.d.def_ 16 (d := gd "check_block" s_check_block) rfl
  obtain ⟨e17, F17⟩ := c.p.m.d.def_ 17 (d := gd "_law_pool" s_law_pool) rfl
  obtain ⟨e18, F18⟩ := c.p.m.d.def_ 18 (d := gd "_law_draw" s_law_draw) rfl
  obtain ⟨e19, F19⟩ := c.p.m.d.def_ 19 (d := gd "_law_told" s_law_told) rfl
  obtain ⟨e20, F20⟩ := c.p.m.d.def_ 20 (d := gd "_law_odd" s_law_odd) rfl
  obtain ⟨e21, F21⟩ := c.p.m.d.def_ 21 (d := gd "_law_tree" s_law_tree) rfl
  obtain ⟨e22, F22⟩ := c.p.m.d.def_ 22 (d := gd "_law_bent" s_law_bent) rfl
  obtain ⟨e23, F23⟩ := c.p.m.d.def_ 23 (d := gd "_law_first" s_law_first) rfl
  obtain ⟨e24, F24⟩ := c.p.m.d.def_ 24 (d := gd "_law_many" s_law_many) rfl
  obtain ⟨e25, F25⟩ := c.p.m.d.def_ 25 (d := gd "law" s_law) rfl
  obtain ⟨eI, FI⟩ := c.p.m.d.def_ 26 (d := pd) rfl
  obtain ⟨eSI, FSI⟩ := c.p.m.d.def_ 27 (d := sd) rfl
  obtain ⟨c0, d0⟩ := c.p.p (pp "name" "Policy.name" 1) (by simp [pps])
  obtain ⟨O0, g0, X0⟩ := MCH.pB_ok d0 c0
  obtain ⟨c1, d1⟩ := c.p.p (pp "limit" "Policy.limit" 2) (by simp [pps])
  obtain ⟨O1, g1, X1⟩ := MCH.pB_ok d1 c1
  obtain ⟨c2, d2⟩ := c.p.p (pp "tries" "Policy.tries" 3) (by simp [pps])
  obtain ⟨O2, g2, X2⟩ := MCH.pB_ok d2 c2
  obtain ⟨c3, d3⟩ := c.p.p (pp "pauses" "Policy.pauses" 4) (by simp [pps])
  obtain ⟨O3, g3, X3⟩ := MCH.pB_ok d3 c3
  obtain ⟨c4, d4⟩ := c.p.p (pp "early" "Policy.early" 5) (by simp [pps])
  obtain ⟨O4, g4, X4⟩ := MCH.pB_ok d4 c4
  obtain ⟨c5, d5⟩ := c.p.p (pp "lossy" "Policy.lossy" 6) (by simp [pps])
  obtain ⟨O5, g5, X5⟩ := MCH.pB_ok d5 c5
  obtain ⟨c6, d6⟩ := c.p.p (pp "ending" "Policy.ending" 7) (by simp [pps])
  obtain ⟨O6, g6, X6⟩ := MCH.pB_ok d6 c6
  obtain ⟨c7, d7⟩ := c.p.p (pp "longest" "Policy.longest" 10) (by simp [pps])
  obtain ⟨O7, g7, X7⟩ := MCH.pB_ok d7 c7
  have e := hfa.symm.trans (He.glo_ok X G (c.p.m.d.fact 25 (f := .glo "law") rfl))
  cases e
  obtain ⟨y1, y⟩ := He.ba c.e
  obtain ⟨y2, y⟩ := He.ba y
  obtain ⟨y3, y⟩ := He.ba y
  obtain ⟨y4, y⟩ := He.ba y
  obtain ⟨y5, y⟩ := He.ba y
  obtain ⟨y6, y7⟩ := He.ba y
  obtain ⟨t1, t⟩ := He.ba y4
  obtain ⟨t2, t3⟩ := He.ba t
  obtain ⟨u1, u⟩ := He.ba y5
  obtain ⟨u2, u3⟩ := He.ba u
  obtain ⟨v1, v⟩ := He.ba y6
  obtain ⟨v2, v⟩ := He.ba v
  obtain ⟨v3, v4⟩ := He.ba v
  have B : Blt mg := { isi := (He.free_ok X G (c.p.m.d.fact 30 (f := .free "isinstance") rfl)), int := (He.free_ok X G (c.p.m.d.fact 31 (f := .free "int") rfl)), bool := (He.free_ok X G (c.p.m.d.fact 32 (f := .free "bool") rfl)), str := (He.free_ok X G (c.p.m.d.fact 33 (f := .free "str") rfl)), tuple := (He.free_ok X G (c.p.m.d.fact 35 (f := .free "tuple") rfl)), len := (He.free_ok X G (c.p.m.d.fact 29 (f := .free "len") rfl)), all := (He.free_ok X G (c.p.m.d.fact 34 (f := .free "all") rfl)), mxl := (He.int_ok X G (c.p.m.d.fact 46 (f := .int "MAX_LETTERS" 8) rfl)), mxp := (He.int_ok X G (c.p.m.d.fact 44 (f := .int "MAX_PAUSE" 8) rfl)), mxt := (He.int_ok X G (c.p.m.d.fact 43 (f := .int "MAX_TRIES" 3) rfl)), mxm := (He.int_ok X G (c.p.m.d.fact 42 (f := .int "MAX_LIMIT" 20) rfl)), mxd := (He.int_ok X G (c.p.m.d.fact 45 (f := .int "MAX_DELAY" 20) rfl)), go := (He.str_ok X G (c.p.m.d.fact 54 (f := .str "GO" "go") rfl)), stop := (He.str_ok X G (c.p.m.d.fact 55 (f := .str "STOP" "stop") rfl)), dead := (He.str_ok X G (c.p.m.d.fact 56 (f := .str "DEADLINE" "deadline") rfl)), let_ := (He.str_ok X G (c.p.m.d.fact 53 (f := .str "LETTERS" "abcdefghijklmnopqrstuvwxyz") rfl)) }
  have SB : SBlt mg := { list := (He.free_ok X G (c.p.m.d.fact 40 (f := .free "list") rfl)), enum := (He.free_ok X G (c.p.m.d.fact 41 (f := .free "enumerate") rfl)), mp := (He.int_ok X G (c.p.m.d.fact 49 (f := .int "MAX_POLICIES" 8) rfl)), ms := (He.int_ok X G (c.p.m.d.fact 50 (f := .int "MAX_SERVICES" 6) rfl)), mparts := (He.int_ok X G (c.p.m.d.fact 51 (f := .int "MAX_PARTS" 12) rfl)), mspan := (He.int_ok X G (c.p.m.d.fact 52 (f := .int "MAX_SPAN" 400) rfl)) }
  have htop : (R.prog.main.scope.names.lookup ("super" : Str)).isSome = false := by decide +kernel
  obtain ⟨xn1, xn2⟩ := c.p.m.x xN (by simp)
  obtain ⟨xp1, xp2⟩ := c.p.m.x xP (by simp)
  have TN := MCH.xB_ok X G xn1 xn2 PySem.MCX.fok_value htop rfl rfl rfl rfl
  have TP := MCH.xB_ok X G xp1 xp2 PySem.MCX.fok_field htop rfl rfl rfl rfl
  obtain ⟨zPt, yPt⟩ := c.x xPt (by simp)
  obtain ⟨CPt, nPt, bPt⟩ := MCH.eB_ok X G zPt htop PySem.MEX.baseV
  have KPt := MCH.eFn2_ok bPt nPt yPt fokE2 rfl rfl rfl rfl rfl
  obtain ⟨zU, yU⟩ := c.x xU (by simp)
  obtain ⟨CU, nU, bU⟩ := MCH.eB_ok X G zU htop PySem.MEX.baseL
  have KU := MCH.eFn1_ok bU nU yU fokE_value rfl rfl rfl rfl rfl
  obtain ⟨zT, yT⟩ := c.x xT (by simp)
  obtain ⟨CT, nT, bT⟩ := MCH.eB_ok X G zT htop PySem.MEX.baseO
  have KT := MCH.eFn1_ok bT nT yT fokE_service rfl rfl rfl rfl rfl
  have TPt : ETx R.prog K mg "InvalidPart" (He.ga K "InvalidPart") (He.ma K (He.ga K "InvalidPart") "__init__") "ValueError" "ValueError.__new__" "ValueError.__init__" PySem.MEX.bmV := ⟨CPt, of_decide_eq_true u1, of_decide_eq_true t1⟩
  have TU : ETx R.prog K mg "UnknownName" (He.ga K "UnknownName") (He.ma K (He.ga K "UnknownName") "__init__") "LookupError" "LookupError.__new__" "LookupError.__init__" PySem.MEX.bmL := ⟨CU, of_decide_eq_true u2, of_decide_eq_true t2⟩
  have TT : ETx R.prog K mg "TooLong" (He.ga K "TooLong") (He.ma K (He.ga K "TooLong") "__init__") "OverflowError" "OverflowError.__new__" "OverflowError.__init__" PySem.MEX.bmO := ⟨CT, of_decide_eq_true u3, of_decide_eq_true t3⟩
  have TC : PolC K (He.ga K "Policy") := ⟨He.cls_ok (c.p.m.d.fact 57 (f := .cls "Policy") rfl), He.noat_ok (c.p.m.d.fact 61 (f := .noat "Policy" "own_name") rfl), He.noat_ok (c.p.m.d.fact 62 (f := .noat "Policy" "own_limit") rfl), He.noat_ok (c.p.m.d.fact 63 (f := .noat "Policy" "own_tries") rfl), He.noat_ok (c.p.m.d.fact 64 (f := .noat "Policy" "own_pauses") rfl), He.noat_ok (c.p.m.d.fact 65 (f := .noat "Policy" "own_early") rfl), He.noat_ok (c.p.m.d.fact 66 (f := .noat "Policy" "own_lossy") rfl), He.noat_ok (c.p.m.d.fact 67 (f := .noat "Policy" "own_ending") rfl)⟩
  have SC : SysC K (He.ga K "System") := ⟨He.cls_ok (c.p.m.d.fact 59 (f := .cls "System") rfl), He.noat_ok (c.p.m.d.fact 68 (f := .noat "System" "own_policies") rfl), He.noat_ok (c.p.m.d.fact 69 (f := .noat "System" "own_blocks") rfl)⟩
  have PT : PolT K (He.ga K "Policy") := ⟨He.eqO_ok v1, He.eqO_ok v2, of_decide_eq_true v3, of_decide_eq_true v4⟩
  have MI := He.mkr_ok (c.p.m.d.fact 58 (f := .mkr "Policy") rfl)
  have MS := He.mkr_ok (c.p.m.d.fact 60 (f := .mkr "System") rfl)
  have Zp : PBlt mg K w (He.ga K "SIZES") := ⟨(He.int_ok X G (c.p.m.d.fact 47 (f := .int "MAX_RUN" 20) rfl)), (He.int_ok X G (c.p.m.d.fact 48 (f := .int "MAX_DEPTH" 3) rfl)), (He.glo_ok X G (c.p.m.d.fact 28 (f := .glo "SIZES") rfl)), tab_sz (c.t (fun K => He.ga K "SIZES", szK) (by simp [ts])) y1⟩
  have b := FunD.bindsA (ps := ["_law_script"]) F25 fun _ _ _ _ _ _ us hl => match us, hl with | [_], _ => rfl
  refine ⟨e25, fun s v => b s [v] rfl, fun base _ _ => ?_⟩
  have Z : Getters R.prog w K mg base (He.ga K "Policy") (fun i => [MCH.ppa K (pp "name" "Policy.name" 1), MCH.ppa K (pp "limit" "Policy.limit" 2), MCH.ppa K (pp "tries" "Policy.tries" 3), MCH.ppa K (pp "pauses" "Policy.pauses" 4), MCH.ppa K (pp "early" "Policy.early" 5), MCH.ppa K (pp "lossy" "Policy.lossy" 6), MCH.ppa K (pp "ending" "Policy.ending" 7)].getD i 0) (fun i => [MCH.pga K (pp "name" "Policy.name" 1), MCH.pga K (pp "limit" "Policy.limit" 2), MCH.pga K (pp "tries" "Policy.tries" 3), MCH.pga K (pp "pauses" "Policy.pauses" 4), MCH.pga K (pp "early" "Policy.early" 5), MCH.pga K (pp "lossy" "Policy.lossy" 6), MCH.pga K (pp "ending" "Policy.ending" 7)].getD i 0) (fun i => [g0, g1, g2, g3, g4, g5, g6].getD i g0) :=
    { p_name := O0, f_name := getter X0 ⟨rfl, rfl, rfl, by decide +kernel, rfl, by decide +kernel, by decide +kernel⟩ rfl TC.cl TC.n_name, b_name := X0.bindsN fun _ _ _ _ _ _ us hl => match us, hl with | [_], _ => rfl, p_limit := O1, f_limit := getter X1 ⟨rfl, rfl, rfl, by decide +kernel, rfl, by decide +kernel, by decide +kernel⟩ rfl TC.cl TC.n_limit, b_limit := X1.bindsN fun _ _ _ _ _ _ us hl => match us, hl with | [_], _ => rfl, p_tries := O2, f_tries := getter X2 ⟨rfl, rfl, rfl, by decide +kernel, rfl, by decide +kernel, by decide +kernel⟩ rfl TC.cl TC.n_tries, b_tries := X2.bindsN fun _ _ _ _ _ _ us hl => match us, hl with | [_], _ => rfl, p_pauses := O3, f_pauses := getter X3 ⟨rfl, rfl, rfl, by decide +kernel, rfl, by decide +kernel, by decide +kernel⟩ rfl TC.cl TC.n_pauses, b_pauses := X3.bindsN fun _ _ _ _ _ _ us hl => match us, hl with | [_], _ => rfl, p_early := O4, f_early := getter X4 ⟨rfl, rfl, rfl, by decide +kernel, rfl, by decide +kernel, by decide +kernel⟩ rfl TC.cl TC.n_early, b_early := X4.bindsN fun _ _ _ _ _ _ us hl => match us, hl with | [_], _ => rfl, p_lossy := O5, f_lossy := getter X5 ⟨rfl, rfl, rfl, by decide +kernel, rfl, by decide +kernel, by decide +kernel⟩ rfl TC.cl TC.n_lossy, b_lossy := X5.bindsN fun _ _ _ _ _ _ us hl => match us, hl with | [_], _ => rfl, p_ending := O6, f_ending := getter X6 ⟨rfl, rfl, rfl, by decide +kernel, rfl, by decide +kernel, by decide +kernel⟩ rfl TC.cl TC.n_ending, b_ending := X6.bindsN fun _ _ _ _ _ _ us hl => match us, hl with | [_], _ => rfl }
  have W5 := ok_is_name (P := R.prog) (w := w) (base := base) F2 B
  have W6 := ok_wrong_field (P := R.prog) (w := w) (base := base) F13 F0 (He.glo_ok X G (c.p.m.d.fact 0 (f := .glo "is_integer") rfl)) F1 (He.glo_ok X G (c.p.m.d.fact 1 (f := .glo "is_between") rfl)) F12 (He.glo_ok X G (c.p.m.d.fact 12 (f := .glo "are_pauses") rfl)) F11 (He.glo_ok X G (c.p.m.d.fact 11 (f := .glo "is_ending") rfl)) B
  have WI := ok_Policy_init (w := w) (base := base) FI TN TP TC W5 (He.glo_ok X G (c.p.m.d.fact 2 (f := .glo "is_name") rfl)) F2 W6 (He.glo_ok X G (c.p.m.d.fact 13 (f := .glo "wrong_field") rfl)) F13
  have WP := ok_is_part (P := R.prog) (w := w) (base := base) F4 B Zp F0 (He.glo_ok X G (c.p.m.d.fact 0 (f := .glo "is_integer") rfl)) F1 (He.glo_ok X G (c.p.m.d.fact 1 (f := .glo "is_between") rfl)) F2 (He.glo_ok X G (c.p.m.d.fact 2 (f := .glo "is_name") rfl)) F3 (He.glo_ok X G (c.p.m.d.fact 3 (f := .glo "is_block") rfl))
  have WN0 : FnOk R.prog w K mg base CX0 3 (He.fAd K ("numbered", none)) e7 ["block", "first", "depth"] (spNum K 0) := ok_num0
  have WN1 := ok_num_step F7 (He.glo_ok X G (c.p.m.d.fact 7 (f := .glo "numbered") rfl)) B.len F4 (He.glo_ok X G (c.p.m.d.fact 4 (f := .glo "is_part") rfl)) WP F6 (He.glo_ok X G (c.p.m.d.fact 6 (f := .glo "blocks_of") rfl)) WN0
  have WN2 := ok_num_step F7 (He.glo_ok X G (c.p.m.d.fact 7 (f := .glo "numbered") rfl)) B.len F4 (He.glo_ok X G (c.p.m.d.fact 4 (f := .glo "is_part") rfl)) WP F6 (He.glo_ok X G (c.p.m.d.fact 6 (f := .glo "blocks_of") rfl)) WN1
  have WN3 := ok_num_step F7 (He.glo_ok X G (c.p.m.d.fact 7 (f := .glo "numbered") rfl)) B.len F4 (He.glo_ok X G (c.p.m.d.fact 4 (f := .glo "is_part") rfl)) WP F6 (He.glo_ok X G (c.p.m.d.fact 6 (f := .glo "blocks_of") rfl)) WN2
  have WPs := ok_parts_of F8 F7 (He.glo_ok X G (c.p.m.d.fact 7 (f := .glo "numbered") rfl)) WN3
  have WL := ok_longest (P := R.prog) (w := w) (base := base) X7 TC (He.free_ok X G (c.p.m.d.fact 39 (f := .free "sum") rfl))
  have WB : ∀ PS L, FnOk R.prog w K mg base CX0 9 (He.fAd K ("block_span", none)) e9 ["block", "policies"] (spBS K (He.ga K "Policy") PS L 3) := by
    intro PS L
    have b0 : FnOk R.prog w K mg base CX0 3 (He.fAd K ("block_span", none)) e9 ["block", "policies"] (spBS K (He.ga K "Policy") PS L 0) := ⟨fun vs H Q E h => False.elim h, fun A o s H a us vs Q E hr e0 hb rv h => False.elim h⟩
    have p0 := ok_part_span (n := 0) (L := L) (PS := PS) F10 F9 (He.glo_ok X G (c.p.m.d.fact 9 (f := .glo "block_span") rfl)) b0 TC O7 X7 WL (He.free_ok X G (c.p.m.d.fact 36 (f := .free "max") rfl))
    have b1 := ok_block_span (n := 0) (L := L) (PS := PS) F9 F10 (He.glo_ok X G (c.p.m.d.fact 10 (f := .glo "part_span") rfl)) p0 (He.free_ok X G (c.p.m.d.fact 39 (f := .free "sum") rfl))
    have p1 := ok_part_span (n := 1) (L := L) (PS := PS) F10 F9 (He.glo_ok X G (c.p.m.d.fact 9 (f := .glo "block_span") rfl)) b1 TC O7 X7 WL (He.free_ok X G (c.p.m.d.fact 36 (f := .free "max") rfl))
    have b2 := ok_block_span (n := 1) (L := L) (PS := PS) F9 F10 (He.glo_ok X G (c.p.m.d.fact 10 (f := .glo "part_span") rfl)) p1 (He.free_ok X G (c.p.m.d.fact 39 (f := .free "sum") rfl))
    have p2 := ok_part_span (n := 2) (L := L) (PS := PS) F10 F9 (He.glo_ok X G (c.p.m.d.fact 9 (f := .glo "block_span") rfl)) b2 TC O7 X7 WL (He.free_ok X G (c.p.m.d.fact 36 (f := .free "max") rfl))
    have b3 := ok_block_span (n := 2) (L := L) (PS := PS) F9 F10 (He.glo_ok X G (c.p.m.d.fact 10 (f := .glo "part_span") rfl)) p2 (He.free_ok X G (c.p.m.d.fact 39 (f := .free "sum") rfl))
    exact b3
  have WCP := ok_check_policies (P := R.prog) (w := w) (base := base) F14 B SB (He.glo_ok X G (c.p.m.d.fact 26 (f := .glo "Policy") rfl)) TC PT (of_decide_eq_true y2) Z
  have WCS := ok_check_services (P := R.prog) (w := w) (base := base) F15 B SB F2 (He.glo_ok X G (c.p.m.d.fact 2 (f := .glo "is_name") rfl))
  have WCB := ok_check_block F16 SB F7 (He.glo_ok X G (c.p.m.d.fact 7 (f := .glo "numbered") rfl)) WN3 F4 (He.glo_ok X G (c.p.m.d.fact 4 (f := .glo "is_part") rfl)) WP F8 (He.glo_ok X G (c.p.m.d.fact 8 (f := .glo "parts_of") rfl)) WPs F5 (He.glo_ok X G (c.p.m.d.fact 5 (f := .glo "is_call") rfl)) F9 (He.glo_ok X G (c.p.m.d.fact 9 (f := .glo "block_span") rfl)) WB TPt KPt TU KU TT KT
  have WS := ok_System_init FSI SC F14 (He.glo_ok X G (c.p.m.d.fact 14 (f := .glo "check_policies") rfl)) WCP F15 (He.glo_ok X G (c.p.m.d.fact 15 (f := .glo "check_services") rfl)) WCS F16 (He.glo_ok X G (c.p.m.d.fact 16 (f := .glo "check_block") rfl)) WCB TC Z
  have M : Blt2 mg := { range := (He.free_ok X G (c.p.m.d.fact 38 (f := .free "range") rfl)), max := (He.free_ok X G (c.p.m.d.fact 36 (f := .free "max") rfl)), min := (He.free_ok X G (c.p.m.d.fact 37 (f := .free "min") rfl)), sum := (He.free_ok X G (c.p.m.d.fact 39 (f := .free "sum") rfl)) }
  have WT := ok_law_told F19 FI (endB_ok y7) MI (He.glo_ok X G (c.p.m.d.fact 26 (f := .glo "Policy") rfl)) WI FSI MS (He.glo_ok X G (c.p.m.d.fact 27 (f := .glo "System") rfl)) WS TPt KPt TU KU (of_decide_eq_true y3)
  exact ok_law F25 B M F17 (He.glo_ok X G (c.p.m.d.fact 17 (f := .glo "_law_pool") rfl)) F18 (He.glo_ok X G (c.p.m.d.fact 18 (f := .glo "_law_draw") rfl)) F21 (He.glo_ok X G (c.p.m.d.fact 21 (f := .glo "_law_tree") rfl)) F20 (He.glo_ok X G (c.p.m.d.fact 20 (f := .glo "_law_odd") rfl)) F23 (He.glo_ok X G (c.p.m.d.fact 23 (f := .glo "_law_first") rfl)) F22 (He.glo_ok X G (c.p.m.d.fact 22 (f := .glo "_law_bent") rfl)) F24 (He.glo_ok X G (c.p.m.d.fact 24 (f := .glo "_law_many") rfl)) F19 (He.glo_ok X G (c.p.m.d.fact 19 (f := .glo "_law_told") rfl)) WT
end K07
open PySem PySem.W PySem.Calls PyProof.Rows
set_option maxRecDepth 100000 in
set_option maxHeartbeats 0 in
theorem PySem.Challenge.cw_mostcalls_k07_parts_refused_holds : PySem.Challenge.rw_mostcalls_k07_parts_refused.Holds := by
  w_on; o_law
  refine HandSHeadRun.head_any (r := OpenLaw.row PySem.Challenge.rw_mostcalls_k07_parts_refused) (q := view (OpenLaw.row PySem.Challenge.rw_mostcalls_k07_parts_refused).prog [58]) (H := K07.hk) (ob := K07.ob) (M := 20000) (loose := K07.names) (d := HandSHeadRun.topDef (OpenLaw.row PySem.Challenge.rw_mostcalls_k07_parts_refused).prog 58) (kwd := []) K07.ob_eq
    (by kernel_rfl) (fun s => by kernel_rfl) K07.run (by kernel_rfl) (by kernel_rfl) (by kernel_rfl) (by rfl) (by first | assumption | decide +kernel) (by decide +kernel) ⟨rfl, rfl, rfl, rfl, rfl, by decide +kernel⟩ ?hw ?hc
  case hw => w_witness2
  case hc =>
    refine L2.walk_ofG (l := PySem.Challenge.rw_mostcalls_k07_parts_refused) (n := 63) (k := 14) (x := "_law_script") (CX := fun _ => L2.CX0) rfl (by decide) (by kernel_rfl) ⟨rfl, by decide, by decide⟩ ?F (fun _ _ _ _ _ z => z)
    intro w mg fa h Y G hmg0
    obtain ⟨K, KX, c⟩ := Y
    have hmg : mg ("law" : PySem.Str) = some (.ref fa) := by
      have e : (HandSHeadRun.topDef (OpenLaw.row PySem.Challenge.rw_mostcalls_k07_parts_refused).prog 58).name = ("law" : PySem.Str) := by kernel_rfl
      rw [← e]
      exact hmg0
    obtain ⟨fd, hb, hF⟩ := K07.facts (w := w) KX G hmg c
    exact ⟨K, fd, K07.spLaw K, KX, hb, fun H a ns hl _ hS => ⟨a, ns, rfl, hS, hl, fun _ => rfl⟩, hF⟩
#print axioms PySem.Challenge.cw_mostcalls_k07_parts_refused_holds
