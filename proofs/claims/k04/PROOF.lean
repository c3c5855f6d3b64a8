import PyProof.Rows.All
import Wide.All
import OpenK.AllK
import Wide.FinOn
import KE.KExcSuper
import HandS.Base
import HandS.Call
import HandS.Exc
import HandS.HeadWalk
import HandS.TryMany
import HandS.ExcField
import KE.KStateDown
import HandS.Words
import HandS.HeadHook1
import HandS.HeadHook2
import HandS.List
import HandS.Comp
import HandS.Iter
import HandS.Walk
import HandS.IsInst
import HandS.Evl
import PyProof.ReprReads
import HandS.Ends
import HandS.WordsExc
import HandS.Defaults
import HandS.HeadEnd
import PyProof.ReprRoads
import HandS.NoneIn
import PyProof.RulesMatch
import PyProof.RulesMatchSeq
import PyProof.Rows.MatchSeqLen
import HandS.ExcOwn
import HandS.MakeKwOnly
import HandS.Dict
import HandS.Zip0
import HandS.Zip
import HandS.SortKw
import KE.KDictZip
import KE.GoesEnumKw
import HandS.OwnEq
import HandS.DictEq
import PyProof.InstEq
import HandS.DeepEq
import HandS.Property
import PyProof.ListMulRoad
import PyProof.FactsAll.tuple_2
import HandS.TupMul
import KE.KParD
import HandS.More
import HandS.Star
import HandS.Lambda
import HandS.EndTab
import KE.KLam
import HandS.HeadHook4
import HandS.Text
import HandS.Steps
import HandS.Flow
import PyProof.ReprLen
import PyProof.Rows.RegFStrParts
import HandS.Conv
import HandS.Head0
import HandS.Head1
import HandS.Head2
import PySem.Challenge.RW_mostcalls_k04_policies_changed
set_option Elab.async false
set_option linter.all false
set_option maxRecDepth 100000
set_option maxHeartbeats 4000000
namespace PySem
namespace MCX
open PySem.W PySem.Calls PyProof.Rows PySem.HandSPX
/-! ### an own error whose __init__ says super().__init__(f); self.f = f -/
def iA (f : Str) (p1 p2 : Pos) : Arguments := { posonlyargs := [], args := [{ arg := "self", annotation := none, pos := p1 }, { arg := f, annotation := none, pos := p2 }], vararg := none, kwonlyargs := [], kw_defaults := [], kwarg := none, defaults := [] }
def iB (f : Str) (q1 q2 q3 q4 q5 q6 q7 q8 q9 q10 : Pos) : List Stmt := [.Expr (.Call (.Attribute (.Call (.Name "super" q1) [] [] q2) "__init__" q3) [.Name f q4] [] q5) q6, .Assign [.Attribute (.Name "self" q7) f q8] (.Name f q9) q10]
def iS (f : Str) : Scope := { kind := .function, names := [(PySem.Str.ofString "self", .local), (f, .local), (PySem.Str.ofString "__class__", .free), (PySem.Str.ofString "super", .globalImplicit)], isGenerator := false, isCoroutine := false, more := [] }
structure FOk (f : Str) : Prop where
  dbg : (f == ("__debug__" : Str)) = false
  lf : (iS f).names.lookup f = some .local
  lc : (iS f).names.lookup ("__class__" : Str) = some .free
  ls : (iS f).names.lookup ("super" : Str) = some .globalImplicit
  ns : (("self" : Str) == f) = false
  bd : ∀ (qual : Str) (p1 p2 : Pos) (body : List Stmt) (doc pm : Value) (an : Option Addr) (cd ct : Value) (cc : Addr) (x v : Value), bindArgs (ksFn "__init__" qual (iA f p1 p2) body (iS f) .none .none doc pm an cd ct cc) ⟨[x, v], []⟩ = pure ([(("self" : Str), x), (f, v)] : List (Str × Value))
theorem fok_value : FOk "value" := ⟨by decide, rfl, rfl, rfl, by decide, fun _ _ _ _ _ _ _ _ _ _ _ _ => rfl⟩
theorem fok_field : FOk "field" := ⟨by decide, rfl, rfl, rfl, by decide, fun _ _ _ _ _ _ _ _ _ _ _ _ => rfl⟩
/-- what the written part says of the class at C and of its __init__ at fI -/
structure XTxt (prog : Program) (K : Frag) (mg : Str → Option Value) (nm f : Str) (C fI : Addr) : Prop where
  gC : mg nm = some (.ref C)
  fok : FOk f
  cls : ∃ nm q N bs bm sn sub ab col dd k0 k1 k2 k3 k5, K.lookup C = some (excClassObj nm q C N bs bm true sn sub ab col dd k0 k1 k2 k3 k5 "ValueError.__new__") ∧ refsVE bm = true
  sa : findIn K (.ref C) "__setattr__" = some (some (.builtin "object.__setattr__"))
  ga : findIn K (.ref C) "__getattribute__" = some (some (.builtin "BaseException.__getattribute__"))
  gg : findIn K (.ref C) "__getattr__" = some none
  noF : findIn K (.ref C) f = some none
  iC : findIn K (.ref C) "__init__" = some (some (.ref fI))
  tC : typeIn K (.ref fI) = some (.type "function")
  kC : keepIn K (.ref C) = true
  exC : subIn K (.ref C) (.type "BaseException") = some true
  veC : subIn K (.ref C) (.type "ValueError") = some true
  tyC : typeIn K (.ref C) = some (.type "type")
  hdC : hasDictIn K C = true
  te : exmOne K (.ref C) (.ref C) = some true
  mC : mroIn K C (.ref C) = some true
  su : ks_superIn K C C "__init__" = some (some (.builtin "ValueError.__init__"))
  tp : nsIn K cStatics "thirdparty.any" = some none
  noS : mg "super" = none
  top : (prog.main.scope.names.lookup ("super" : Str)).isSome = false
  fn : ∃ (qual : Str) (oc : Value) (od : Option Addr) (doc pm : Value) (an : Option Addr) (cda : Addr) (ct : Value) (cc : Addr) (osl : Array (Option Value)) (p1 p2 q1 q2 q3 q4 q5 q6 q7 q8 q9 q10 : Pos),
    K.lookup fI = some ⟨oc, od, .func (ksFn "__init__" qual (iA f p1 p2) (iB f q1 q2 q3 q4 q5 q6 q7 q8 q9 q10) (iS f) .none .none doc pm an (.ref cda) ct cc), osl⟩ ∧ codeIn K (.ref cda) qual = true ∧
    (∃ ccl cdd vs ccs file tf, K.lookup cda = some ⟨ccl, cdd, .fields vs, ccs⟩ ∧ vs[2]? = some (.str file tf) ∧ ((prog.main.file : Str) == file) = true) ∧
    (∃ cl cld csl, K.lookup cc = some ⟨cl, cld, .cell (some (.ref C)), csl⟩) ∧ (q3.endLine == q5.line) = true
/-- what __init__ leaves of a fresh exception at x -/
structure InitEnd (f : Str) (h h' : Heap) (x C dx t1 : Addr) (v : Value) : Prop where
  keep : ∀ b o, b ≠ x → h.get? b = some o → h'.get? b = some o
  obj : h'.get? x = some { cls := .ref C, dict := some dx, data := .fields #[.ref t1, .none, .none, .none, .bool false, .none] }
  dbig : h.objs.size ≤ dx
  dne : dx ≠ x
  ns : h'.Ns1 dx (fun y => if y = f then some v else none)
section
variable {prog : Program} {w : World} {A : Around} {E : Value → Shared → Prop} {R : Result → Shared → Prop} {s : Shared} {K : Frag} {mg : Str → Option Value} {nm f : Str} {C fI : Addr}
theorem sup_init (T : XTxt prog K mg nm f C fI) {x t0 : Addr} {v : Value} (X : K.In s.heap) (hlim : s.heap.NoLimit) (hx : s.heap.get? x = some (excO C t0)) (hnx : K.lookup x = none) (hroom : A.depth < recursionLimit)
    (hG : s.heap.Ns mainGlobals mg) (hB : ∃ mb, s.heap.Ns builtinsNs mb ∧ ∀ x : Str, x ≠ "__name__" → mb x = bootBuiltins x)
    (hq : ∀ h' tk dx t1, InitEnd f s.heap h' x C dx t1 v → R (.ok (.ret .none)) { s with heap := h', toks := tk }) :
    codeAny (model prog w) A (.call (.ref fI) ⟨[.ref x, v], []⟩) R s := by
  obtain ⟨qual, oc, od, doc, pm, an, cda, ct, cc, osl, p1, p2, q1, q2, q3, q4, q5, q6, q7, q8, q9, q10, hl, hcd, ⟨ccl, cdd, vs, ccs, file, tf, hcode, hvs, hfile⟩, ⟨cl, cld, csl, hcell⟩, hpos⟩ := T.fn
  obtain ⟨cnm, q, N, bs, bm, sn, sub, ab, col, dd, k0, k1, k2, k3, k5, hC, hbm⟩ := T.cls
  obtain ⟨mb, hBn, hBv⟩ := hB
  have hcl : clsIn K C = some { name := cnm, bases := bs, mro := .ref C :: bm, ns := N, qualname := q, hasDict := true, slotNames := sn, subclasses := sub, abstract := ab, collection := col, hasDel := false } := by unfold clsIn; rw [hC] <;> rfl
  obtain ⟨hp, g, d, tk, os⟩ := s
  refine ks_codeAny_call_defAt (fd := ksFn "__init__" qual (iA f p1 p2) (iB f q1 q2 q3 q4 q5 q6 q7 q8 q9 q10) (iS f) .none .none doc pm an (.ref cda) ct cc) (body := iB f q1 q2 q3 q4 q5 q6 q7 q8 q9 q10) (binds := [("self", .ref x), (f, v)]) hroom (X _ _ hl) rfl hlim (codeRec_of X hcd) rfl (BindsTo.of_eq (T.fok.bd _ _ _ _ _ _ _ _ _ _ _ _)) ?hce ?hlo (fun h₁ hns hk₁ => ?_) rfl rfl rfl
  case hce => intro y hy; simp only [iS, List.mem_cons, List.not_mem_nil, or_false] at hy; rcases hy with rfl | rfl | rfl | rfl <;> simp
  case hlo =>
    intro y hy
    simp only [List.mem_cons, List.not_mem_nil, or_false] at hy
    rcases hy with rfl | rfl
    · rfl
    · exact T.fok.lf
  have X₁ : K.In h₁ := X.keeps hk₁
  have hx₁ := hk₁ _ _ hx
  have mv : (fun y => ([("self", Value.ref x), (f, v)] : List (Str × Value)).reverse.lookup y) f = some v := by simp [List.lookup]
  have mself : (fun y => ([("self", Value.ref x), (f, v)] : List (Str × Value)).reverse.lookup y) "self" = some (.ref x) := by simp [List.lookup, T.fok.ns]
  have hns' : Heap.Ns h₁ hp.objs.size (fun y => ([("self", Value.ref x), (f, v)] : List (Str × Value)).reverse.lookup y) := hns
  have hcr := X₁ _ _ hC
  have I₁ : InstAt h₁ x (excO C t0) C none := ⟨hx₁, rfl, rfl, trivial⟩
  show _root_.PySem.wpAt _ _ _ (execs (iB f q1 q2 q3 q4 q5 q6 q7 q8 q9 q10) (ksEnv qual (iS f) hp.objs.size fI (.ref cda) cc)) _ _ _
  have hmc : ∀ ov, methodCall (.Call (.Name "super" q1) [] [] q2) "__init__" q3 q5 (ksEnv qual (iS f) hp.objs.size fI (.ref cda) cc) ov 1 (backTo q5 (starEach [.Name f q4] (ksEnv qual (iS f) hp.objs.size fI (.ref cda) cc))) [] = (do
      let (ff, first) ← holding [ov] (getMethod ov "__init__" (L2.plainOf (.Call (.Name "super" q1) [] [] q2) (ksEnv qual (iS f) hp.objs.size fI (.ref cda) cc)))
      callWith q5 ff first (backTo q5 (starEach [.Name f q4] (ksEnv qual (iS f) hp.objs.size fI (.ref cda) cc))) []) := fun ov => L2.mcall_line rfl hpos
  refine ks_wpAt_execs_cons (ks_wpAt_Expr_any (ks_wpAt_MethodCall (pl := L2.plainOf (.Call (.Name "super" q1) [] [] q2) (ksEnv qual (iS f) hp.objs.size fI (.ref cda) cc)) ?_ ?he))
  case he =>
    show (do
      let ov ← attributeBase (.Call (.Name "super" q1) [] [] q2) "__init__" (ksEnv qual (iS f) hp.objs.size fI (.ref cda) cc) (eval (.Call (.Name "super" q1) [] [] q2) (ksEnv qual (iS f) hp.objs.size fI (.ref cda) cc))
      standAt q3.atName
      methodCall (.Call (.Name "super" q1) [] [] q2) "__init__" q3 q5 (ksEnv qual (iS f) hp.objs.size fI (.ref cda) cc) ov 1 (backTo q5 (starEach [.Name f q4] (ksEnv qual (iS f) hp.objs.size fI (.ref cda) cc))) []) = _
    simp only [hmc]
  refine ks_wpAt_super_base (env := ksEnv qual (iS f) hp.objs.size fI (.ref cda) cc) (f := fI) (cc := cda) T.fok.ls T.fok.lc (by decide) rfl (X₁ _ _ hl) rfl rfl rfl (X₁ _ _ hcode) rfl hvs hfile T.top ?_
  refine ks_loadName_global rfl T.fok.ls (loadGlobal_builtin (env := ksEnv qual (iS f) hp.objs.size fI (.ref cda) cc) (hG.keeps hk₁) T.noS (hBn.keeps hk₁) ((hBv _ (by decide +kernel)).trans (by first | rfl | decide +kernel | kernel_rfl)) ⟨rfl, ?_⟩)
  refine wpAny_loadName_free rfl T.fok.lc rfl ⟨_, X₁ _ _ hcell, rfl⟩ ?_
  refine wpAny_loadName_local rfl rfl hns' mself ?_
  refine ks_wpAny_isType_cls (X₁ _ _ hC) rfl ⟨rfl, ?_⟩
  refine ks_wpAny_call_super (X₁ _ _ hC) rfl hx₁ rfl (fun c e => by cases e) (looks_mroIn X₁ T.mC) (fun h₂ e₂ k₂ => ?_)
  have X₂ : K.In h₂ := X₁.keeps k₂
  have hx₂ := k₂ _ _ hx₁
  have I₂ : InstAt h₂ x (excO C t0) C none := ⟨hx₂, rfl, rfl, trivial⟩
  have hns₂ := hns'.keeps k₂
  have hal : alongIn K "__init__" (((Value.ref C :: bm).dropWhile (· != .ref C)).drop 1) = some (some (.builtin "ValueError.__init__")) := by
    have z := T.su
    unfold ks_superIn at z
    rw [hcl] at z
    exact z
  refine kxs_getMethod kxs_ValueError (so := h₁.objs.size) (D := C) (x := x) (C := C) (l₀ := .ref C :: bm) (K := K) e₂ (looks_opaque X₂ T.tp) (fun A Q E s k q => wpAny_bind ((looks_clsIn X₂ hcl) A _ E s k (wpAny_pure q))) rfl X₂ hal (I₂.type.andThen (looks_subIn X₂ T.veC)) (ks_ne X₂ I₂ hcl) (by decide) ?_
  have k₃ : ∀ b o, h₂.get? b = some o → (h₂.push (kxs_mw "ValueError.__init__" x)).get? b = some o := fun b o e => Heap.get?_push_of_some _ e
  have hmw : (h₂.push (kxs_mw "ValueError.__init__" x)).get? h₂.objs.size = some (kxs_mw "ValueError.__init__" x) := Heap.get?_push_at rfl rfl
  refine kxs_callWith (i := "ValueError.__init__") (x := x) rfl (evalArgs_plain ?_)
  refine spliced_cons (wpAny_Name (wpAny_loadName_local rfl T.fok.lf (hns₂.keeps k₃) mv ?_) T.fok.dbg)
  refine spliced_nil ⟨hmw, ?_⟩
  have FB := F.excBase_ValueError
  refine wpAny_call (codeAny_of_tree ?_)
  show wpAny _ _ (callAny (.ref h₂.objs.size) ⟨[v], []⟩) _ _ _
  simp only [callAny]
  refine wpAny_bind (wpAny_load hmw ?_)
  simp only [kxs_mw, show (Value.type "method-wrapper" == Value.type "method" || Value.type "method-wrapper" == Value.type "builtin_function_or_method" || Value.type "method-wrapper" == Value.type "method-wrapper") = true by decide, if_true]
  refine KFB.if_so (by decide) ?_
  refine wpAny_bind (check_bound_init FB.toExcCallFacts (k₃ _ _ (X₂ _ _ hC)) (k₃ _ _ hx₂) rfl ?_)
  refine wpAny_bind (wpAny_pure (wpAny_pure ?_))
  refine ⟨plainId_quiet FB.init.plain _, codeAny_builtin FB.initEntry ?_⟩
  refine exc_init_tree (cls := .ref C) (t0 := t0) (dv := none) (c2 := .none) (c3 := .none) (b4 := .bool false) (k₃ _ _ hx₂) (by rw [sizeLine_eq]; exact (by decide : 1 ≤ 16777216)) fun h₄ k₄ hx₄ _ => ?_
  have hxL : hp.objs.size ≠ x := Nat.ne_of_gt (Heap.lt_size hx)
  have X₄ : K.In h₄ := fun a o e => k₄ a o (fun z => by rw [z, hnx] at e; cases e) (k₃ a o (X₂ a o e))
  have hns₄ : Heap.Ns h₄ hp.objs.size (fun y => ([("self", Value.ref x), (f, v)] : List (Str × Value)).reverse.lookup y) := by
    obtain ⟨oL, es, ep, hL, r⟩ := hns₂.keeps k₃
    exact ⟨oL, es, ep, k₄ _ _ hxL hL, r⟩
  show _root_.PySem.wpAt _ _ _ (execs _ _) _ _ _
  refine ks_wpAt_execs_cons (ks_wpAt_Assign_Attr (wpAt_of_wpAny ?_))
  refine wpAny_Name (wpAny_loadName_local rfl T.fok.lf hns₄ mv ?_) T.fok.dbg
  refine wpAny_Name (wpAny_loadName_local rfl rfl hns₄ mself ?_) (by decide)
  refine set_plain X₄ (od := none) ⟨hx₄, rfl, rfl, trivial⟩ T.sa ?_
  refine exc_osa X₄ hx₄ hcl (show refsVE (.ref C :: bm) = true from hbm) rfl T.noF (fun h₅ tk₅ dx k₅ dn dne hx₅ hn₅ => ?_)
  show _root_.PySem.wpAt _ _ _ (execs _ _) _ _ _
  have hle : hp.objs.size ≤ h₄.objs.size := Nat.le_of_lt hns₄.lt
  exact wpAt_of_wpAny (wpAny_execs_nil (hq h₅ tk₅ dx _ ⟨fun b o hb e => k₅ b o hb (k₄ b o hb (k₃ b o (k₂ b o (hk₁ b o e)))), hx₅, Nat.le_trans hle dn, dne, hn₅⟩))
end
end MCX
end PySem
namespace L2
open PySem PySem.Spec PyProof.Rows
/-! ### try .. several clauses, each «except X as n» -/
abbrev ClA : Type := Value × Nat × (Addr → Value → Option Addr → TS)
abbrev Ends.un (D : Ends) (i : Nat) : Ends := { nx := fun σ' H' => D.nx (σ'.set i none) H', rt := D.rt, bk := fun σ' H' => D.bk (σ'.set i none) H', ct := fun σ' H' => D.ct (σ'.set i none) H' }
def wManyA (K : PySem.W.Frag) (Wo : WX) (D : Ends) : List ClA → WX
  | [] => Wo
  | (c, i, ts) :: r => fun cls d σ H => ∃ b, PySem.W.exmOne K cls c = some b ∧ (b = true → ∀ a, H a = none → ts a cls d (D.un i) (σ.set i (some (.ref a))) H) ∧ (b = false → wManyA K Wo D r cls d σ H)
inductive HdsA (X : Cx) : List ExceptHandler → List ClA → Prop
  | nil : HdsA X [] []
  | cons {x n : Str} {i : Nat} {c : Value} {ts : Addr → Value → Option Addr → TS} {b₀ : Stmt} {su : List Stmt} {np po : Pos} {hs : List ExceptHandler} {l : List ClA} (hc : Names X x c) (hi : X.N[i]? = some n) (hn : X.env.kindOf n = some .local)
      (hsu : ∀ (a : Addr) (oe : Obj) (cls : Value) (d : Option Addr) (pn : List (Addr × Obj)), Zc cls d oe → (∃ vs, oe.data = .fields vs) → PSs (X.suite a ((a, oe) :: pn)) (b₀ :: su) (ts a cls d)) (r : HdsA X hs l) :
      HdsA X (.ExceptHandler (some (.Name x np)) (some n) (b₀ :: su) po :: hs) ((c, i, ts) :: l)
section
variable {X : Cx} {body : List Stmt} {k₀ : ExceptHandler} {ks : List ExceptHandler} {l : List ClA} {pos : Pos} {tb : WX → TS} {Wo : WX}
theorem ps_try_manyA (e1 : X.stack = X.env :: X.outer) (e2 : X.env.frame = some X.env.locals) (nd : X.N.Nodup) (tk : Takes X Wo)
    (hb : ∀ (W : WX) (pn : List (Addr × Obj)) (xe : Value → Shared → Prop), Takes (X.tr pn xe) W → PassesOwn (model X.prog X.w) X.A X.env xe → PSs (X.tr pn xe) body (tb W))
    (hh : HdsA X (k₀ :: ks) l) : PS X (.Try body (k₀ :: ks) [] [] pos) (fun D σ H => tb (wManyA X.K Wo D l) D σ H) := by
  refine ⟨fun pins s σ H D I hw => ?_⟩
  have ok := I.ok
  have efr : X.A.frames = some (X.env :: X.outer) := by rw [ok.frames, e1]
  refine wpAny_Try_except (wpAny_mono ((hb (wManyA X.K Wo D l) (X.pn ++ pins) _ (fun u s1 xx => ?cat) PassesOwn.looking).run [] s σ H D (I.toTry _) hw) (fun fl s1 sp => ?thru) (fun e s1 he => he))
  case thru =>
    cases fl with
    | next => exact let ⟨σ', H', J', q⟩ := sp; wpAny_execs_nil ⟨σ', H', J'.ofTry ok, q⟩
    | brk => exact let ⟨σ', H', J', q⟩ := sp; ⟨σ', H', J'.ofTry ok, q⟩
    | cont => exact let ⟨σ', H', J', q⟩ := sp; ⟨σ', H', J'.ofTry ok, q⟩
    | ret u => exact let ⟨v, σ', H', J', r, q⟩ := sp; ⟨v, σ', H', J'.ofTry ok, r, q⟩
  case cat =>
    obtain ⟨a, B, sI, pz, σ', H', cls, d, rfl, J0, nb, up, sky, na, os, ag, ww⟩ := xx
    have J : Inv X pins σ' H' sI := J0.ofTry ok
    rw [e1] at sky
    refine Sky.land Zc.steady efr e2 sky fun h3 fl3 up3 => ?_
    have J3 : Inv X pins σ' H' ⟨h3, s1.gens, s1.drawn, s1.toks, s1.os⟩ := J.landed nb fl3.1 (up.trans up3) os ag
    obtain ⟨o3, vs3, g3, z3, d3⟩ := fl3.there
    have out : a ∉ frs (X.env :: X.outer) := fun hm => by
      obtain ⟨_, o', e', nf⟩ := fl3.2.2.1.mem hm
      rw [g3] at e'
      cases e'
      exact nf _ d3
    have nL : a ≠ X.env.locals := fun z => out (List.mem_filterMap.mpr ⟨X.env, List.mem_cons_self, by rw [e2, z]⟩)
    have nF : a ∉ X.fs := fun hm => by
      obtain ⟨e, he, q⟩ := List.mem_filterMap.mp hm
      exact out (List.mem_filterMap.mpr ⟨e, List.mem_cons_of_mem _ he, q⟩)
    have S3 := J3.suite g3 d3 na nL nF
    have go : ∀ {hs : List ExceptHandler} {m : List ClA}, HdsA X hs m → wManyA X.K Wo D m cls d σ' H' → wpAny (model X.prog X.w) X.A (handleBy (.ref a) X.env hs) (SP X pins D) X.xe { s1 with heap := h3 } := by
      intro hs m hk
      induction hk with
      | nil =>
        intro wq
        refine wpAny_handleBy_nil ?_
        obtain ⟨_, _, _, oe, vs, T, oT, _, ge, _, gd, gt, _⟩ := id fl3
        have last : wpAny (model X.prog X.w) X.A (setFlight (.ref a) X.env.frame) (fun _ s4 => wpAny (model X.prog X.w) X.A (throw (.ref a) : Sem Flow) (SP X pins D) X.xe s4) X.xe ⟨h3, s1.gens, s1.drawn, s1.toks, s1.os⟩ := by
          rw [e2]
          exact HandSPX.setFlight_upZ fl3 fun h4 hh4 up4 => wpAny_throw (tk _ _ ⟨a, B, sI, pins, σ', H', cls, d, rfl, J, nb, (up.trans up3).trans up4, .inr (.inr (by rw [e1]; exact hh4)), na, os, ag, wq⟩)
        unfold PySem.passOn
        refine wpAny_bind (wpAny_field ge gd gt ?_)
        rw [if_neg (by simp : ¬ ((Value.ref T == Value.none) = true))]
        first | exact wpAny_bind (wpAny_pure (wpAny_bind last)) | exact wpAny_bind last
      | @cons x n i c ts b₀ su np po hs2 l2 hc hi hn hsu r ih =>
        rintro ⟨b, eb, yes, no⟩
        refine wpAny_handleBy_cons (codeAny_handlers_test ?_) (fun q => nomatch q)
        have L1 : PySem.W.Looks (model X.prog X.w) h3 (typeOf (.ref a)) cls := fun A Q E s k q => wpAny_typeOf_ref (k _ _ g3) (by rw [z3.1]; exact q)
        have L2' := PySem.W.exm_one (M := model X.prog X.w) J3.kIn L1 eb
        have look : ∀ {Q E : Value → Shared → Prop}, Q c ⟨h3, s1.gens, s1.drawn, s1.toks, s1.os⟩ → wpAny (model X.prog X.w) (X.A.mark (some (.ref a))) (eval (.Name x np) X.env) Q E ⟨h3, s1.gens, s1.drawn, s1.toks, s1.os⟩ := fun {Q E} q => by
          obtain ⟨hg, hdb, hm | ⟨hm, hv, hnn⟩⟩ := hc
          · exact ld_glob (X := X.suite a ((a, o3) :: (X.pn ++ pins))) S3 hg hm q hdb
          · exact ld_blt (X := X.suite a ((a, o3) :: (X.pn ++ pins))) S3 hg hm hv q hnn hdb
        refine look (L2'.here ?_)
        cases b with
        | false => exact ih (no rfl)
        | true =>
          refine codeAny_handlers_suite_as (HandSPX.lands_againZ fl3 fun h4 fl4 up4 => ?_)
          have J4 : Inv X pins σ' H' ⟨h4, s1.gens, s1.drawn, s1.toks, s1.os⟩ := J.landed nb fl4.1 ((up.trans up3).trans up4) os ag
          obtain ⟨o4, vs4, g4, z4, d4⟩ := fl4.there
          have S4 := J4.suite g4 d4 na nL nF
          refine store_ok (X := X.suite a ((a, o4) :: (X.pn ++ pins))) (v := .ref a) S4 nd hi (.inl hn) rfl (fun s5 S5 => ?_) (.inr hn)
          refine wpAny_mono ((hsu a o4 cls d (X.pn ++ pins) z4 ⟨_, d4⟩).run [] s5 _ H' _ S5 (yes rfl a na)) (fun fl s6 sp => ?_) (fun _ _ z => z.elim)
          have fin : ∀ {σ6 : St} {H6 : Hp} {Q : Shared → Prop}, Inv (X.suite a ((a, o4) :: (X.pn ++ pins))) [] σ6 H6 s6 → (∀ s7, Inv X pins (σ6.set i none) H6 s7 → Q s7) →
              wpAny (model X.prog X.w) X.A (do bindName X.env n .none; unbindBehindTheSuite X.env n po) (fun _ s7 => Q s7) X.xe s6 := fun S6 hq => gone_ok (S6.unsuite ok) nd hi hn hq
          cases fl with
          | next => exact let ⟨_, _, S6, q6⟩ := sp; fin S6 fun s7 J7 => ⟨_, _, J7, q6⟩
          | brk => exact let ⟨_, _, S6, q6⟩ := sp; fin S6 fun s7 J7 => ⟨_, _, J7, q6⟩
          | cont => exact let ⟨_, _, S6, q6⟩ := sp; fin S6 fun s7 J7 => ⟨_, _, J7, q6⟩
          | ret u => exact let ⟨_, _, _, S6, r6, q6⟩ := sp; fin S6 fun s7 J7 => ⟨_, _, _, J7, r6, q6⟩
    exact go hh ww
end
end L2
namespace PySem
namespace MCX
open PySem.W PySem.Calls PyProof.Rows PySem.HandSPX
/-- a made error: its own dict holds f -/
structure OwnMade (f : Str) (h h' : Heap) (e C d : Addr) (v : Value) : Prop where
  keep : ∀ b o, h.get? b = some o → h'.get? b = some o
  new : h.objs.size ≤ e
  obj : ∃ oe vs, h'.get? e = some oe ∧ oe.cls = .ref C ∧ oe.dict = some d ∧ oe.data = .fields vs ∧ vs[1]? = some .none
  dbig : h.objs.size ≤ d
  dne : d ≠ e
  ns : h'.Ns1 d (fun y => if y = f then some v else none)
section
variable {prog : Program} {w : World} {A : Around} {R : Result → Shared → Prop} {s : Shared} {K : Frag} {mg : Str → Option Value} {nm f : Str} {C fI : Addr}
theorem x_made (T : XTxt prog K mg nm f C fI) {v : Value} (X : K.In s.heap) (hlim : s.heap.NoLimit) (hroom : A.depth + 1 < recursionLimit)
    (hG : s.heap.Ns mainGlobals mg) (hB : ∃ mb, s.heap.Ns builtinsNs mb ∧ ∀ x : Str, x ≠ "__name__" → mb x = bootBuiltins x)
    (hq : ∀ h' tk e d, OwnMade f s.heap h' e C d v → R (.ok (.ret (.ref e))) { s with heap := h', toks := tk }) :
    codeAny (model prog w) A (.call (.ref C) ⟨[v], []⟩) R s := by
  obtain ⟨cnm, q, N, bs, bm, sn, sub, ab, col, dd, k0, k1, k2, k3, k5, hC, hbm⟩ := T.cls
  obtain ⟨hp, g, dr, tk, os⟩ := s
  have k : ∀ b o, hp.get? b = some o → ((hp.push (kdv_tup [v])).push (excO C hp.objs.size)).get? b = some o := fun b o e => Heap.get?_push_of_some _ (Heap.get?_push_of_some _ e)
  have hget : ((hp.push (kdv_tup [v])).push (excO C hp.objs.size)).get? (hp.objs.size + 1) = some (excO C hp.objs.size) := by heap_get
  have hnx : K.lookup (hp.objs.size + 1) = none := by
    cases e : K.lookup (hp.objs.size + 1) with
    | none => rfl
    | some o =>
      have z : hp.get? (hp.objs.size + 1) = some o := X _ _ e
      exact absurd (Nat.lt_of_succ_lt (Heap.lt_size z)) (Nat.lt_irrefl _)
  refine call_own F.excBase_ValueError (fun X => refsVE_contains X bm hbm) (X _ _ hC) (looks_findIn X T.iC) (fun self => bind_fn X self T.tC) (by rw [sizeLine_eq]; exact (by decide : 1 ≤ 16777216)) ?_
  refine sup_init (s := ⟨(hp.push (kdv_tup [v])).push (excO C hp.objs.size), g, dr, tk, os⟩) T (X.keeps k) (hlim.keeps k) hget hnx hroom (hG.keeps k) (let ⟨mb, b1, b2⟩ := hB; ⟨mb, b1.keeps k, b2⟩) fun h' tk' dx t1 ⟨k', hx, dn, dne, hns⟩ => ?_
  have old : ∀ b o, hp.get? b = some o → h'.get? b = some o := fun b o e => k' b o (Nat.ne_of_lt (Nat.lt_succ_of_lt (Heap.lt_size e))) (k b o e)
  have z : hp.objs.size + 1 + 1 ≤ dx := by
    first
      | (simpa only [Heap.size_push] using dn)
      | exact dn
      | (have q := dn; rw [Heap.size_push, Heap.size_push] at q; exact q)
  exact ⟨rfl, hq h' tk' (hp.objs.size + 1) dx ⟨old, Nat.le_succ _, ⟨_, _, hx, rfl, rfl, rfl, rfl⟩, Nat.le_trans (Nat.le_trans (Nat.le_succ _) (Nat.le_succ _)) z, dne, hns⟩⟩
end
end MCX
end PySem
namespace L2
open PySem PySem.Spec PyProof.Rows
theorem relO_one {g : Str} {v : V} {v' : Value} (r : RelV v v') (f : Str) : RelO (List.lookup f [(g, v)]) (if f = g then some v' else none) := by
  by_cases hw : f = g
  · subst hw
    rw [if_pos rfl]
    have q : List.lookup f [(f, v)] = some v := by simp [List.lookup]
    rw [q]
    exact r
  · rw [if_neg hw]
    have qw : (f == g) = false := by simpa using hw
    have q2 : List.lookup f [(g, v)] = none := by simp [List.lookup, qw]
    rw [q2]
    trivial
section
variable {X : Cx} {nm f : Str} {C fI : Addr}
/-- nm(e) -/
def tMkX (f : Str) (C : Addr) (ta : TA) : St → Hp → XK → Prop := fun σ H Q => ta σ H fun vs H1 => ∃ v, vs = [v] ∧ ∀ d, H1 d = none → Q (.ref C) (some d) (upd H1 d (.xd [(f, v)]))
theorem pmk_x {a : Expr} {ta : TA} {p pos : Pos} {k : Nat} (T : PySem.MCX.XTxt X.prog X.K X.mg nm f C fI) (hr : Room k X.A) (ha : PA X [a] ta) (hg : Gl X nm := by rfl) (hd : (nm == ("__debug__" : Str)) = false := by decide)
    (he : starEach (a :: []) X.env = (false, eval a X.env) :: starEach [] X.env := by rfl) (hpl : (backTo pos (starEach [] X.env)).any (·.1) = false := by rfl) :
    PMk X (.Call (.Name nm p) [a] [] pos) (tMkX f C ta) := by
  intro pins s σ H Q I h
  refine wpAny_Call_Name_kw (ld_glob I hg T.gC ?_ hd)
  refine PySem.W.callWith_K (h₀ := X.base) I.ok.mod.kin T.kC (thn (ha.run pos pins s σ H _ I h) fun us s1 hh => ?_) he hpl
  obtain ⟨vs, H1, I1, r1, v, ev, q1⟩ := hh
  subst ev
  refine ⟨I1.kIn, ?_⟩
  cases r1 with
  | cons rv rn =>
    rename_i v' us'
    cases rn
    show wpAny _ _ (call (.ref C) [v']) _ _ _
    have hlim := I1.nolimit
    have hG : s1.heap.Ns mainGlobals X.mg := I1.ok.mod.glob.keeps I1.bk
    have hB : ∃ mb, s1.heap.Ns builtinsNs mb ∧ ∀ x : Str, x ≠ "__name__" → mb x = bootBuiltins x := let ⟨mb, b1, b2⟩ := I1.ok.mod.blt; ⟨mb, b1.keeps I1.bk, b2⟩
    obtain ⟨hp, g, dr, tk, os⟩ := s1
    refine wpAny_call (PySem.MCX.x_made T I1.kIn hlim (by have := hr.dp; omega) hG hB fun h' tk' e d M => ?_)
    show MkP X pins σ Q (.ref e) ⟨h', g, dr, tk', os⟩
    obtain ⟨oe, fv, hoe, hc, hd, hdat, h1⟩ := M.obj
    have hns := M.ns
    obtain ⟨G', g1, g2⟩ := restrict h' fun b => decide (b ≠ e)
    have gk : ∀ b, b ≠ e → G'.get? b = h'.get? b := fun b hb => g1 b (decide_eq_true hb)
    have ge : G'.get? e = none := g2 e (by simp)
    have old : ∀ b o, hp.get? b = some o → G'.get? b = some o := fun b o q => (gk b (Nat.ne_of_lt (Nat.lt_of_lt_of_le (Heap.lt_size q) M.new))).trans (M.keep b o q)
    have ob : ObjOk X.prog X.w (upd H1 d (.xd [(f, v)])) G' d (.xd [(f, v)]) :=
      ⟨_, hns.at (fun o q => (gk d M.dne).trans q), fun g => relO_one rv g⟩
    have J : Inv X pins σ (upd H1 d (.xd [(f, v)])) ⟨G', g, dr, tk', os⟩ := I1.laid (t' := tk') old M.dbig ob
    refine ⟨e, oe, fv, ⟨G', g, dr, tk', os⟩, _, .ref C, some d, rfl, J, fun b o q => ?_, ge, hoe, ⟨hc, hd⟩, hdat, h1, ?_, rfl, I1.bare, raises_own T.exC T.tyC, q1 d (I1.hok.fresh M.dbig)⟩
    · by_cases hb : b = e
      · have q' : G'.get? b = some o := q
        rw [hb, ge] at q'; cases q'
      · exact (gk b hb).symm.trans q
    · rw [upd_ne (Ne.symm M.dne)]
      exact I1.hok.fresh M.new
/-- raise nm(e) -/
def tRaiseX (f : Str) (C : Addr) (W : WX) (ta : TA) : TS := fun _ σ H => tMkX f C ta σ H fun cls d H' => W cls d σ H'
theorem ps_raiseX {a : Expr} {ta : TA} {W : WX} {p pos pos2 : Pos} {k : Nat} (hc : X.calm = true) (T : PySem.MCX.XTxt X.prog X.K X.mg nm f C fI) (hr : Room k X.A) (tk : Takes X W) (ha : PA X [a] ta) (hg : Gl X nm := by rfl) (hd : (nm == ("__debug__" : Str)) = false := by decide)
    (he : starEach (a :: []) X.env = (false, eval a X.env) :: starEach [] X.env := by rfl) (hpl : (backTo pos (starEach [] X.env)).any (·.1) = false := by rfl) :
    PS X (.Raise (some (.Call (.Name nm p) [a] [] pos)) none pos2) (tRaiseX f C W ta) := ps_raise hc tk (pmk_x T hr ha hg hd he hpl)
theorem _root_.PySem.MCX.XTxt.xf {prog : Program} {K : PySem.W.Frag} {mg : Str → Option Value} (T : PySem.MCX.XTxt prog K mg nm f C fI) : XfC K C := ⟨T.ga, T.gg, T.exC, T.hdC⟩
end
end L2
namespace MCH
open PySem PySem.Spec PyProof.Rows L2 PySem.W PySem.MCX PySem.HandSPX He
/-! ### facts of own errors (super().__init__) by names, beside the layer's own facts -/
def asM (g : Addr → Option Obj) : Nat → List Addr
  | 0 => [mainGlobals, cStatics]
  | n + 1 => growD g (asM g n)
/-- an own error: its class's name, its field, its __init__ -/
structure XD where
  nm : Str
  f : Str
  st : Stmt
abbrev FnV : Type := Option (Str × Arguments × FuncBody × Scope × Addr × Addr)
def fnV (K : Frag) (x : XD) : FnV := match K.lookup (ma K (ga K x.nm) "__init__") with
  | some ⟨_, _, .func fd, _⟩ => some (fd.name, fd.params, fd.body, fd.scope, fd.globals, fd.builtins)
  | _ => none
def XD.val (x : XD) : FnV := some ("__init__", defArgs x.st, .stmts (defBody x.st), defScope x.st, mainGlobals, builtinsNs)
def clB (K : Frag) (C : Addr) : Bool := match K.lookup C with
  | some ⟨.type c, _, .cls cd, sl⟩ => decide (c = "type") && (match cd.mro, sl.toList with
    | .ref C' :: bm, [_, _, _, _, some (.builtin n), _] => decide (C' = C) && (decide (n = "ValueError.__new__") && (!cd.hasDel && (cd.hasDict && refsVE bm)))
    | _, _ => false)
  | _ => false
theorem clB_ok {K : Frag} {C : Addr} (h : clB K C = true) : ∃ nm q N bs bm sn sub ab col dd k0 k1 k2 k3 k5, K.lookup C = some (excClassObj nm q C N bs bm true sn sub ab col dd k0 k1 k2 k3 k5 "ValueError.__new__") ∧ refsVE bm = true := by
  unfold clB at h
  cases q : K.lookup C with
  | none => rw [q] at h; cases h
  | some o =>
    obtain ⟨oc, od, dt, sl⟩ := o
    rw [q] at h
    cases oc with
    | type c =>
      cases dt with
      | cls cd =>
        obtain ⟨h1, h2⟩ := ba h
        have e1 : c = "type" := of_decide_eq_true h1
        subst e1
        obtain ⟨nm, bs, mro, ns, qn, hd, sn, sb, ab, col, del⟩ := cd
        obtain ⟨sl⟩ := sl
        dsimp only at h2
        split at h2
        · rename_i C' bm k0 k1 k2 k3 n k5
          obtain ⟨a1, h3⟩ := ba h2
          obtain ⟨a2, h4⟩ := ba h3
          obtain ⟨a3, h5⟩ := ba h4
          obtain ⟨a4, a5⟩ := ba h5
          have z1 := of_decide_eq_true a1
          have z2 := of_decide_eq_true a2
          subst z1 z2
          simp only [Bool.not_eq_true'] at a3
          subst a3 a4
          exact ⟨nm, qn, ns, bs, bm, sn, sb, ab, col, od, k0, k1, k2, k3, k5, rfl, a5⟩
        · cases h2
      | _ => cases h
    | _ => cases dt <;> cases h
def fnB (prog : Program) (K : Frag) (C fI : Addr) : Bool := match K.lookup fI with
  | some ⟨_, _, .func fd, _⟩ => decide (fd.defaults = .none) && (decide (fd.kwdefaults = .none) && (match fd.code, fd.closure with
    | .ref cda, [(x, cc)] => decide (x = "__class__") && (codeIn K (.ref cda) fd.qualname && ((match K.lookup cda with
      | some ⟨_, _, .fields vs, _⟩ => (match (vs[2]? : Option Value) with
        | some (.str file _) => ((prog.main.file : Str) == file)
        | _ => false)
      | _ => false) && (match K.lookup cc with
      | some ⟨_, _, .cell (some (.ref D)), _⟩ => decide (D = C)
      | _ => false)))
    | _, _ => false))
  | _ => false
def xB (prog : Program) (K : Frag) (x : XD) : Bool :=
  eqO (nsIn K mainGlobals x.nm) (some (some (.ref (ga K x.nm)))) && (clB K (ga K x.nm) && (eqO (findIn K (.ref (ga K x.nm)) "__setattr__") (some (some (.builtin "object.__setattr__"))) &&
  (eqO (findIn K (.ref (ga K x.nm)) "__getattribute__") (some (some (.builtin "BaseException.__getattribute__"))) && (eqO (findIn K (.ref (ga K x.nm)) "__getattr__") (some none) && (eqO (findIn K (.ref (ga K x.nm)) x.f) (some none) &&
  (eqO (findIn K (.ref (ga K x.nm)) "__init__") (some (some (.ref (ma K (ga K x.nm) "__init__")))) && (decide (typeIn K (.ref (ma K (ga K x.nm) "__init__")) = some (.type "function")) && (keepIn K (.ref (ga K x.nm)) &&
  (decide (subIn K (.ref (ga K x.nm)) (.type "BaseException") = some true) && (decide (subIn K (.ref (ga K x.nm)) (.type "ValueError") = some true) && (decide (typeIn K (.ref (ga K x.nm)) = some (.type "type")) && (hasDictIn K (ga K x.nm) &&
  (decide (exmOne K (.ref (ga K x.nm)) (.ref (ga K x.nm)) = some true) && (decide (mroIn K (ga K x.nm) (.ref (ga K x.nm)) = some true) && (eqO (ks_superIn K (ga K x.nm) (ga K x.nm) "__init__") (some (some (.builtin "ValueError.__init__"))) &&
  (eqO (nsIn K cStatics "thirdparty.any") (some none) && (eqO (nsIn K mainGlobals "super") (some none) && fnB prog K (ga K x.nm) (ma K (ga K x.nm) "__init__"))))))))))))))))))
theorem xB_ok {prog : Program} {K : Frag} {h : Heap} {mg : Str → Option Value} (X : K.In h) (G : h.Ns mainGlobals mg) {x : XD} (c : xB prog K x = true) (e : fnV K x = x.val) (fok : FOk x.f) (htop : (prog.main.scope.names.lookup ("super" : Str)).isSome = false)
    {p1 p2 q1 q2 q3 q4 q5 q6 q7 q8 q9 q10 : Pos} (eA : defArgs x.st = iA x.f p1 p2) (eB : defBody x.st = iB x.f q1 q2 q3 q4 q5 q6 q7 q8 q9 q10) (eS : defScope x.st = iS x.f) (hpos : (q3.endLine == q5.line) = true) :
    XTxt prog K mg x.nm x.f (ga K x.nm) (ma K (ga K x.nm) "__init__") := by
  unfold xB at c
  simp only [Bool.and_eq_true] at c
  obtain ⟨c1, c2, c3, c4, c5, c6, c7, c8, c9, c10, c11, c12, c13, c14, c15, c16, c17, c18, c19⟩ := c
  refine { gC := mg_of X G (eqO_ok c1), fok := fok, cls := clB_ok c2, sa := eqO_ok c3, ga := eqO_ok c4, gg := eqO_ok c5, noF := eqO_ok c6, iC := eqO_ok c7, tC := of_decide_eq_true c8, kC := c9, exC := of_decide_eq_true c10, veC := of_decide_eq_true c11, tyC := of_decide_eq_true c12, hdC := c13, te := of_decide_eq_true c14, mC := of_decide_eq_true c15, su := eqO_ok c16, tp := eqO_ok c17, noS := mg_none_of X G (eqO_ok c18), top := htop, fn := ?_ }
  unfold fnB at c19
  unfold fnV XD.val at e
  cases q : K.lookup (ma K (ga K x.nm) "__init__") with
  | none => rw [q] at c19; cases c19
  | some o =>
    obtain ⟨oc, od, dt, osl⟩ := o
    rw [q] at c19 e
    cases dt with
    | func fd =>
      obtain ⟨n1, n2, n3, n4, n5, n6, n7, n8, n9, n10, n11, n12, n13, n14, n15⟩ := fd
      simp only [Option.some.injEq, Prod.mk.injEq] at e
      obtain ⟨h1, h3, h4, h5, h6, h8⟩ := e
      rw [eA] at h3
      rw [eB] at h4
      rw [eS] at h5
      subst h1 h3 h4 h5 h6 h8
      dsimp only at c19
      simp only [Bool.and_eq_true, decide_eq_true_eq] at c19
      obtain ⟨d1, d2, d3⟩ := c19
      subst d1 d2
      split at d3
      · rename_i cda y cc
        simp only [Bool.and_eq_true, decide_eq_true_eq] at d3
        obtain ⟨m1, m2, m3, m4⟩ := d3
        subst m1
        refine ⟨n2, oc, od, n10, n11, n12, cda, n14, cc, osl, p1, p2, q1, q2, q3, q4, q5, q6, q7, q8, q9, q10, rfl, m2, ?_, ?_, hpos⟩
        · split at m3
          · rename_i _ _ vs _ e1
            split at m3
            · rename_i file tf e2
              exact ⟨_, _, vs, _, file, tf, e1, e2, m3⟩
            · cases m3
          · cases m3
        · split at m4
          · rename_i _ _ D _ e1
            have z := of_decide_eq_true m4
            subst z
            exact ⟨_, _, _, e1⟩
          · cases m4
      · cases d3
    | _ => cases c19
/-! ### the hook -/
abbrev AlM : Type := AlD × Bool × List FnV
def obsM (n : Nat) (prog : Program) (fa : List Fa) (fn : List DefD) (xs : List XD) (ex : Frag → Bool) (g : Addr → Option Obj) : AlM :=
  (obsD fa fn (frG g (asM g n)), (xs.all fun x => xB prog (frG g (asM g n)) x) && ex (frG g (asM g n)), xs.map fun x => fnV (frG g (asM g n)) x)
def valM (fn : List DefD) (xs : List XD) : AlM := (valD fn, true, xs.map XD.val)
structure SaysM (prog : Program) (fa : List Fa) (fn : List DefD) (xs : List XD) (ex : Frag → Bool) (K : Frag) : Prop where
  d : SaysD fa fn K
  x : ∀ x ∈ xs, xB prog K x = true ∧ fnV K x = x.val
  e : ex K = true
theorem map_eq_at {α β : Type} {f g : α → β} : ∀ {l : List α}, l.map f = l.map g → ∀ x ∈ l, f x = g x
  | [], _, x, hx => by cases hx
  | a :: l, h, x, hx => by
    simp only [List.map_cons, List.cons.injEq] at h
    rcases List.mem_cons.mp hx with rfl | hx
    · exact h.1
    · exact map_eq_at h.2 x hx
theorem saysM_of {n : Nat} {prog : Program} {fa : List Fa} {fn : List DefD} {xs : List XD} {ex : Frag → Bool} {g : Addr → Option Obj} (e : obsM n prog fa fn xs ex g = valM fn xs) : SaysM prog fa fn xs ex (frG g (asM g n)) := by
  have e1 := congrArg (fun z : AlM => z.1) e
  have e2 := congrArg (fun z : AlM => z.2.1) e
  have e3 := congrArg (fun z : AlM => z.2.2) e
  obtain ⟨b1, b2⟩ := ba e2
  exact ⟨e1, fun x hx => ⟨List.all_eq_true.mp b1 x hx, map_eq_at e3 x hx⟩, b2⟩
def hookM (n : Nat) (prog : Program) (fa : List Fa) (fn : List DefD) (xs : List XD) (ex : Frag → Bool) : PySem.W.Hook where
  α := AlM
  obs := fun s => obsM n prog fa fn xs ex s.heap.get?
  val := fun _ => valM fn xs
  says := fun w h => ∃ K : PySem.W.Frag, K.In h ∧ SaysM prog fa fn xs ex K
  of := fun _ _ e => ⟨_, frG_in, saysM_of e⟩
  keeps := fun _ _ _ ⟨K, hK, c⟩ k => ⟨K, PySem.W.Frag.In.keeps hK k, c⟩
theorem obsM_eq {n : Nat} {prog : Program} {fa : List Fa} {fn : List DefD} {xs : List XD} {ex : Frag → Bool} {g : Addr → Option Obj} {s : Shared} (h : ∀ a, g a = s.heap.get? a) : obsM n prog fa fn xs ex g = (hookM n prog fa fn xs ex).obs s := by
  have e : g = s.heap.get? := funext h
  rw [e] <;> rfl
end MCH
namespace L2
open PySem PySem.Spec PyProof.Rows
/-! ### data behind a value: None, bools, ints, texts, lists, tuples, the empty dict -/
mutual
inductive Dq (K : PySem.W.Frag) (H : Hp) : V → PyData → Prop
  | non : Dq K H .non .none
  | bl (b : Bool) : Dq K H (.bl b) (.bool b)
  | int (i : Int) : Dq K H (.int i) (.int i)
  | str (x : Str) : x.length ≤ sizeLine → Dq K H (.str x) (.str x)
  | lst {a : Addr} {xs : List V} {ds : List PyData} : SqL K H a xs → DqA K H xs ds → Dq K H (.ref a) (.list ds)
  | tup {a : Addr} {xs : List V} {ds : List PyData} : SqT K H a xs → DqA K H xs ds → Dq K H (.ref a) (.tuple ds)
  | dct {a : Addr} : H a = some (.dK []) → Dq K H (.ref a) (.dict [])
inductive DqA (K : PySem.W.Frag) (H : Hp) : List V → List PyData → Prop
  | nil : DqA K H [] []
  | cons {v : V} {vs : List V} {d : PyData} {ds : List PyData} : Dq K H v d → DqA K H vs ds → DqA K H (v :: vs) (d :: ds)
end
theorem SqT.upT {K : PySem.W.Frag} {H H' : Hp} {a : Addr} {xs : List V} (e : Same H H') (h : SqT K H a xs) : SqT K H' a xs := by
  rcases h with h | h
  · rcases h with h | ⟨o, h⟩
    · exact .inl (.inl (e _ _ h))
    · exact .inl (.inr ⟨o, e _ _ h⟩)
  · exact .inr h
mutual
theorem Dq.up {K : PySem.W.Frag} {H H' : Hp} (e : Same H H') : ∀ {v : V} {d : PyData}, Dq K H v d → Dq K H' v d
  | _, _, .non => .non
  | _, _, .bl b => .bl b
  | _, _, .int i => .int i
  | _, _, .str x h => .str x h
  | _, _, .lst h a => .lst (e.seq h) (DqA.up e a)
  | _, _, .tup h a => .tup (SqT.upT e h) (DqA.up e a)
  | _, _, .dct h => .dct (e _ _ h)
theorem DqA.up {K : PySem.W.Frag} {H H' : Hp} (e : Same H H') : ∀ {vs : List V} {ds : List PyData}, DqA K H vs ds → DqA K H' vs ds
  | _, _, .nil => .nil
  | _, _, .cons h r => .cons (Dq.up e h) (DqA.up e r)
end
theorem DqA.len {K : PySem.W.Frag} {H : Hp} : ∀ {vs : List V} {ds : List PyData}, DqA K H vs ds → vs.length = ds.length
  | _, _, .nil => rfl
  | _, _, .cons _ r => by simp [DqA.len r]
theorem DqA.at {K : PySem.W.Frag} {H : Hp} : ∀ {vs : List V} {ds : List PyData} {i : Nat} {v : V}, DqA K H vs ds → vs[i]? = some v → ∃ d, ds[i]? = some d ∧ Dq K H v d
  | _, _, _, _, .nil, e => by simp at e
  | _, _, 0, _, .cons h _, e => by simp at e; subst e; exact ⟨_, rfl, h⟩
  | _, _, i + 1, v, .cons _ r, e => by
    obtain ⟨d, h1, h2⟩ := DqA.at (i := i) (v := v) r (by simpa using e)
    exact ⟨d, by simpa using h1, h2⟩
/-- no dict within -/
def noDct : PyData → Bool := fun d => !d.hasDict
mutual
theorem Dq.dp {K : PySem.W.Frag} {H : Hp} : ∀ {v : V} {d : PyData}, Dq K H v d → d.hasDict = false → Dp K H v d
  | _, _, .non, _ => .non
  | _, _, .bl b, _ => .bl b
  | _, _, .int i, _ => .int i
  | _, _, .str x _, _ => .str x
  | _, _, .lst h a, n => .lst h (DqA.dp a (by simpa [PyData.hasDict] using n))
  | _, _, .tup h a, n => .tup h (DqA.dp a (by simpa [PyData.hasDict] using n))
  | _, _, .dct h, n => by simp [PyData.hasDict] at n
theorem DqA.dp {K : PySem.W.Frag} {H : Hp} : ∀ {vs : List V} {ds : List PyData}, DqA K H vs ds → PyData.hasDictAll ds = false → DpAll K H vs ds
  | _, _, .nil, _ => .nil
  | _, _, .cons h r, n => by
    simp [PyData.hasDictAll] at n
    exact .cons (Dq.dp h n.1) (DqA.dp r n.2)
end
/-! ### isinstance by data -/
def tyD : PyData → String
  | .none => "NoneType"
  | .bool _ => "bool"
  | .int _ => "int"
  | .str _ => "str"
  | .list _ => "list"
  | .tuple _ => "tuple"
  | .dict _ => "dict"
theorem Dq.ty {K : PySem.W.Frag} {H : Hp} {v : V} {d : PyData} (h : Dq K H v d) : TyX K H v (.type (tyD d)) := by
  cases h with
  | non => exact .base .non
  | bl b => exact .base (.bl b)
  | int i => exact .base (.int i)
  | str x _ => exact .base (.str x)
  | lst h _ =>
    rcases h with (h | ⟨o, h⟩) | ⟨o, _, _, h, hc, _⟩
    · exact .base (.lst h)
    · exact .base (.frz h)
    · exact .kList h hc
  | tup h _ =>
    rcases h with (h | ⟨o, h⟩) | ⟨o, _, _, h, hc, _⟩
    · exact .base (.tup h)
    · exact .fTuple h
    · exact .kTuple h hc
  | dct h => exact .base (.dK h)
def isA (d : PyData) (T : String) : Bool := (kitB (tyD d) T).getD false
def TOK (T : String) : Prop := (kitB "NoneType" T).isSome = true ∧ (kitB "bool" T).isSome = true ∧ (kitB "int" T).isSome = true ∧ (kitB "str" T).isSome = true ∧ (kitB "list" T).isSome = true ∧ (kitB "tuple" T).isSome = true ∧ (kitB "dict" T).isSome = true
theorem isA_kit {K : PySem.W.Frag} {d : PyData} {T : String} (t : TOK T) : PySem.W.kitOne K (.type (tyD d)) (.type T) = some (isA d T) := by
  refine kit_ty ?_
  obtain ⟨h1, h2, h3, h4, h5, h6, h7⟩ := t
  unfold isA
  have z : ∀ o : Option Bool, o.isSome = true → o = some (o.getD false) := fun o h => by cases o with | none => cases h | some b => rfl
  cases d <;> (apply z; assumption)
theorem tok_int : TOK "int" := by unfold TOK; decide +kernel
theorem tok_bool : TOK "bool" := by unfold TOK; decide +kernel
theorem tok_str : TOK "str" := by unfold TOK; decide +kernel
theorem tok_tuple : TOK "tuple" := by unfold TOK; decide +kernel
theorem tok_list : TOK "list" := by unfold TOK; decide +kernel
theorem tok_dict : TOK "dict" := by unfold TOK; decide +kernel
def isStrD : PyData → Bool | .str _ => true | _ => false
def isTupD : PyData → Bool | .tuple _ => true | _ => false
def isBoolD : PyData → Bool | .bool _ => true | _ => false
theorem isA_str (d : PyData) : isA d "str" = isStrD d := by
  unfold isA
  cases d <;> (unfold tyD isStrD; dsimp only; decide +kernel)
theorem isA_tuple (d : PyData) : isA d "tuple" = isTupD d := by
  unfold isA
  cases d <;> (unfold tyD isTupD; dsimp only; decide +kernel)
theorem isA_bool (d : PyData) : isA d "bool" = isBoolD d := by
  unfold isA
  cases d <;> (unfold tyD isBoolD; dsimp only; decide +kernel)
def rIsD (K : PySem.W.Frag) : List V → Hp → VK → Prop := fun xs H Q => ∃ (v : V) (d : PyData) (T : String), xs = [v, .ty T] ∧ Dq K H v d ∧ TOK T ∧ Q (.bl (isA d T)) H
theorem call_isD {X : Cx} : CallR X (.builtin "isinstance") (rIsD X.K) := by
  intro pins s σ H xs us Q I r h
  obtain ⟨v, d, T, rfl, hd, ht, q⟩ := h
  exact call_isi pins s σ H [v, .ty T] us Q I r ⟨v, .ty T, _, _, isA d T, rfl, .ty T, hd.ty, isA_kit ht, q⟩
/-! ### ifs whose test is known -/
section
variable {c A B : Prop} [Decidable c]
theorem iteY (hc : c) (h : A) : if decide c = true then A else B := by
  rw [decide_eq_true hc, if_pos rfl]
  exact h
theorem iteN (hc : ¬ c) (h : B) : if decide c = true then A else B := by
  rw [decide_eq_false hc, if_neg Bool.false_ne_true]
  exact h
theorem iteNY (hc : c) (h : B) : if (!decide c) = true then A else B := by
  rw [decide_eq_true hc]
  exact h
theorem iteNN (hc : ¬ c) (h : A) : if (!decide c) = true then A else B := by
  rw [decide_eq_false hc]
  exact h
theorem iteB {b : Bool} (h1 : b = true → A) (h2 : b = false → B) : if b = true then A else B := by
  cases b with
  | true => exact h1 rfl
  | false => exact h2 rfl
end
/-! ### a comprehension whose element is pure -/
theorem take_snoc {α : Type} : ∀ {l : List α} {i : Nat} {x : α}, l[i]? = some x → l.take i ++ [x] = l.take (i + 1)
  | [], i, x, h => by simp at h
  | a :: l, 0, x, h => by simp at h; subst h; rfl
  | a :: l, i + 1, x, h => by
    have z := take_snoc (l := l) (i := i) (x := x) (by simpa using h)
    show a :: (l.take i ++ [x]) = a :: l.take (i + 1)
    rw [z]
theorem lc_map {J : It} {n j : Nat} {G : Hp → Prop} {Yv : Nat → V → Prop} {te : TE} {vs : List Nat} {σ : St} {H1 : Hp} {D : Addr} {Qd : Hp → Prop} (w : Walk J n G (fun i H x H' => H' = H ∧ Yv i x)) (ys : List V) (hn : ys.length = n) (hz : n ≤ sizeLine)
    (hG : ∀ acc, G (upd H1 D (.lst acc))) (hw : ∀ x, wipe ((wipe σ vs).set j (some x)) vs = wipe σ vs)
    (hs : ∀ (i : Nat) (x : V) (acc : List V) (Q : VK), i < n → Yv i x → (∀ y, ys[i]? = some y → Q y (upd H1 D (.lst acc))) → te ((wipe σ vs).set j (some x)) (upd H1 D (.lst acc)) Q)
    (hd : Qd (upd H1 D (.lst ys))) :
    ∃ W : Nat → Nat → Hp → Prop, (∃ m, W 0 m (upd H1 D (.lst []))) ∧ ∀ i m H, W i m H →
      (J.stop i H ∧ Qd H) ∨ (J.go i H ∧ ∃ Nx : Hp → Prop, (∀ H', Nx H' → ∃ m', m' < m ∧ W (i + 1) m' H') ∧ ∀ x H', J.yld i H x H' → gName j x (wipe σ vs) H' fun σ2 H2 => wipe σ2 vs = wipe σ vs ∧ tYes σ2 H2 fun b H3 =>
        if b = true then te σ2 H3 fun y H4 => ∃ acc, H4 D = some (.lst acc) ∧ acc.length < sizeLine ∧ Nx (upd H4 D (.lst (acc ++ [y]))) else Nx H3) := by
  refine lc_it w (fun i H => H = upd H1 D (.lst (ys.take i))) rfl (fun i H _ e => by rw [e]; exact hG _) ?_ (fun H e => ?_)
  · rintro i x H H' hi rfl ⟨rfl, hy⟩
    refine ⟨hw x, ?_⟩
    refine hs i x _ _ hi hy fun y ey => ⟨ys.take i, upd_same, ?_, ?_⟩
    · rw [List.length_take]
      exact Nat.lt_of_lt_of_le (Nat.lt_of_le_of_lt (Nat.min_le_left _ _) hi) hz
    · rw [upd_upd, take_snoc ey]
  · subst e
    rw [← hn, List.take_length]
    exact hd
/-- repr(x), by the data behind x -/
def rRepr (K : PySem.W.Frag) : List V → Hp → VK → Prop := fun xs H Q => ∃ (v : V) (d : PyData), xs = [v] ∧ Dp K H v d ∧ d.showable = true ∧ d.hasDict = false ∧ d.depth ≤ 60 ∧ d.shown.length ≤ sizeLine ∧ Q (.str d.shown) H
end L2
namespace L2
open PySem PySem.Spec PyProof.Rows
/-! ### promises of defs where no repr is under way (A.guards = some []) -/
structure FnG (P : Program) (w : World) (K : PySem.W.Frag) (mg : Str → Option Value) (base : Heap) (CX : CXT) (k : Nat) (f : Addr) (fd : FuncData) (ps : List Str) (sp : Sp) : Prop where
  len : ∀ vs H Q E, sp vs H Q E → vs.length = ps.length
  run : ∀ (A : Around) (outer : List Env) (s : Shared) (H : Hp) (args : Args) (us : List Value) (vs : List V) (Q : VK) (E : XK), A.guards = some [] → Room k A → Env0 P w K mg base A outer s H → BindsTo s fd args (ps.zip us) → Vals vs us → sp vs H Q E →
    codeAny (model P w) A (.call (.ref f) args) (CR CX outer P w H s Q E) s
section
variable {P : Program} {w : World} {K : PySem.W.Frag} {mg : Str → Option Value} {base : Heap} {CX : CXT} {k : Nat} {f : Addr} {fd : FuncData} {ps : List Str} {sp : Sp}
theorem FnOk.g (F : FnOk P w K mg base CX k f fd ps sp) : FnG P w K mg base CX k f fd ps sp := ⟨F.len, fun A o s H a us vs Q E _ hr => F.run A o s H a us vs Q E hr⟩
theorem FnG.mono {j : Nat} (F : FnG P w K mg base CX j f fd ps sp) (h : j ≤ k) : FnG P w K mg base CX k f fd ps sp := ⟨F.len, fun A o s H a us vs Q E hg hr => F.run A o s H a us vs Q E hg (hr.mono h)⟩
theorem FunD.okG {x qual : Str} {params : Arguments} {body : List Stmt} {scope : Scope} {dvs : List V} {kws : List (Str × V)} {N : List Str} (F : FunD K x qual params body scope dvs kws f fd) (S : FnScope N ps scope) (len : ∀ vs H Q E, sp vs H Q E → vs.length = ps.length)
    (hbody : ∀ (cdv : Value) (A : Around) (outer : List Env) (s : Shared) (H : Hp) (vs : List V) (Q : VK) (E : XK), A.guards = some [] → Room k (A.deeper (envOfC qual scope s.heap.objs.size f cdv)) → sp vs H Q E →
      ∃ t, PSs (cxOf CX P w K mg base N qual scope f cdv A outer s H E) body t ∧ t { nx := fun _ H' => Q .non H', rt := Q } (start N vs) H) : FnG P w K mg base CX (k + 1) f fd ps sp := by
  obtain ⟨oc, od, dV, kV, doc, pm, an, cdv, ct, osl, rfl, lk, hcd, _, _⟩ := F.ex
  refine ⟨len, fun A outer s H args us vs Q E hgd hr e0 hbn rv hsp => ?_⟩
  have KX : K.In s.heap := e0.mod.kin.keeps fun b o e => (e0.bs b o e).1
  have kinds : ∀ y ∈ ps.zip us, scope.names.lookup y.1 = some .local ∨ (scope.names.lookup y.1 = some .cell ∧ ((cellsFrom (s.heap.objs.size + 1) scope.names []).lookup y.1).isSome = true) := by
    rintro ⟨n, v⟩ hy
    exact (S.par n (List.of_mem_zip hy).1).imp id fun q => ⟨q, PySem.W.cellsFrom_some _ _ _ (.inl q)⟩
  refine codeAny_call_function hr.depth (KX _ _ lk) rfl S.co S.gen rfl (PySem.W.codeRec_of KX hcd) (hbn _ _ _ _ (wpAny_newFunctionEnv_cells S.kind kinds fun env he s1 x => ?_))
  subst he
  refine ⟨(e0.mod.nolimit.keeps fun b o e => (e0.bs b o e).1).keeps x.toInCall.keep, codeAny_func ?_⟩
  obtain ⟨t, ht, hq⟩ := hbody cdv A outer s H vs Q E hgd (hr.deeper _) hsp
  have J0 := inv_start (CX := CX) (E := E) S hr.hd e0 (len _ _ _ _ hsp) rv x
  refine wpAny_mono (ht.run [] s1 (start N vs) H _ J0 hq) (fun fl s' hs => ?_) fun e s' hs => hs
  cases fl with
  | ret u => exact let ⟨v, σ', H', J, rz, q⟩ := hs; ⟨v, H', J.os, J.bare, J.base, J.hok, rz, q⟩
  | next => exact let ⟨σ', H', J, q⟩ := hs; ⟨.non, H', J.os, J.bare, J.base, J.hok, rfl, q⟩
  | brk => exact let ⟨_, _, _, q⟩ := hs; q.elim
  | cont => exact let ⟨_, _, _, q⟩ := hs; q.elim
end
section
variable {X : Cx} {CX : CXT} {k : Nat} {f : Addr} {fd : FuncData} {ps : List Str} {sp : Sp} {dvs : List V} {ds : List Value} {E : XK} {x : Str} {p pos : Pos} {e : Expr} {es : List Expr} {t : TA}
theorem run_fnG {pins : List (Addr × Obj)} {σ : St} {H : Hp} {s : Shared} {Q : VK} {us : List Value} {vs : List V} (F : FnG X.prog X.w X.K X.mg X.base CX k f fd ps sp) (hgd : X.A.guards = some []) (hr : Room k X.A) (hb : Binds X.K fd ps ds) (hd : Vals dvs ds) (hx : Passes CX X E)
    (I : Inv X pins σ H s) (r : Vals vs us) (h : sp (vs ++ dvs) H Q E) : wpAny (model X.prog X.w) X.A (call (.ref f) us) (EP X pins σ Q) X.xe s := by
  have rr : Vals (vs ++ dvs) (us ++ ds) := r.append hd
  have hl : (us ++ ds).length = ps.length := rr.length ▸ F.len _ _ _ _ h
  refine wpAny_call (codeAny_mono (F.run X.A X.stack s H ⟨us, []⟩ (us ++ ds) (vs ++ dvs) Q E hgd hr I.env0 (hb s us I.kIn hl) rr h) fun r s' hq => ?_)
  match r, hq with
  | .error e, hq => exact hx pins σ H s e s' I hq
  | .ok (.ret u), hq => exact I.after hq
  | .ok .next, hq => exact hq.elim
  | .ok .brk, hq => exact hq.elim
  | .ok .cont, hq => exact hq.elim
/-- f(e, ..) -/
theorem pe_callG (F : FnG X.prog X.w X.K X.mg X.base CX k f fd ps sp) (hgd : X.A.guards = some []) (hr : Room k X.A) (hg : Gl X x) (hm : X.mg x = some (.ref f)) (hk : PySem.W.keepIn X.K (.ref f) = true) (hb : Binds X.K fd ps ds) (hd : Vals dvs ds) (hx : Passes CX X E)
    (ha : PA X (e :: es) t) (hdb : (x == ("__debug__" : Str)) = false := by decide) (he : starEach (e :: es) X.env = (false, eval e X.env) :: starEach es X.env := by rfl) (hpl : (backTo pos (starEach es X.env)).any (·.1) = false := by rfl) :
    PE X (.Call (.Name x p) (e :: es) [] pos) (tCall sp dvs E t) :=
  ⟨fun pins s σ H Q I h => wpAny_Call_Name_kw (ld_glob I hg hm (PySem.W.callWith_K (h₀ := X.base) I.ok.mod.kin hk (thn (ha.run pos pins s σ H _ I h) fun us s1 ⟨vs, H1, I1, r, q⟩ => ⟨I1.kIn, run_fnG F hgd hr hb hd hx I1 r q⟩) he hpl) hdb)⟩
theorem call_repr (hgd : X.A.guards = some []) (hu : X.A.units + 64 < cLine) : CallR X (.builtin "repr") (rRepr X.K) := by
  intro pins s σ H xs us Q I r h
  obtain ⟨v, d, rfl, hd, sh, nd, dp, hz, q⟩ := h
  obtain ⟨u, rfl, ru⟩ := vals1 r
  obtain ⟨as, hr⟩ := Dp.reads I d v u hd ru
  cases hd with
  | non => cases (show u = Value.none from ru); exact PySem.P.repr_of_none ⟨.str _, H, I.tok _, ⟨_, rfl⟩, q⟩
  | bl b => cases (show u = Value.bool b from ru); exact PySem.P.repr_of_bool ⟨.str _, H, I.tok _, ⟨_, rfl⟩, q⟩
  | int i =>
    obtain ⟨t, rfl⟩ := (show ∃ t, u = Value.int i t from ru)
    exact PySem.P.repr_of_int (by simpa [PyData.showable] using sh) ⟨.str _, H, I.tok _, ⟨_, rfl⟩, q⟩
  | str x =>
    obtain ⟨t, rfl⟩ := (show ∃ t, u = Value.str x t from ru)
    exact PySem.P.repr_of_str ⟨.str _, H, I.tok _, ⟨_, rfl⟩, q⟩ hz
  | lst hs ha =>
    cases ru
    exact repr_of_reads' hr sh (fun z => by rw [nd] at z; cases z) hgd (by omega) (fun _ _ e => e) (fun h' u tk hk => ⟨.str _, H, I.kept (t' := tk) hk, ⟨_, rfl⟩, q⟩) hz
  | tup hs ha =>
    cases ru
    exact repr_of_reads' hr sh (fun z => by rw [nd] at z; cases z) hgd (by omega) (fun _ _ e => e) (fun h' u tk hk => ⟨.str _, H, I.kept (t' := tk) hk, ⟨_, rfl⟩, q⟩) hz
end
end L2
namespace L2
open PySem PySem.Spec PyProof.Rows
/-! ### the law's end over such a promise -/
section
variable {P : Program} {w : World} {K : PySem.W.Frag} {mg mb : Str → Option Value} {CX : CXT} {k : Nat} {fa a : Addr} {fd : FuncData} {x : Str} {sp : Sp} {s₁ : Shared} {vs : List Value} {ns : List Int}
/-- the goal of a law's call -/
abbrev LawGoal (P : Program) (w : World) (fa a : Addr) (s₁ : Shared) : Prop := codeAny (model P w) callerA (.call (.ref fa) ⟨[.ref a], []⟩) (fun r s' => r = .ok (.ret (.bool true)) ∧ OldK s₁.heap s'.heap ∧ s'.os = s₁.os ∧ AllBare s'.gens) s₁
theorem law_callG (KX : K.In s₁.heap) (hns : s₁.heap.Ns mainGlobals mg) (hb : s₁.heap.Ns builtinsNs mb) (hbb : ∀ x : Str, x ≠ "__name__" → mb x = bootBuiltins x) (hlim : s₁.heap.NoLimit) (hg : s₁.gens = #[])
    (ha : s₁.heap.get? a = some { cls := .type "list", data := .seq vs.toArray }) (hi : IntsAre vs ns) (hl : ns.length ≤ sizeLine) (hr : Room k callerA)
    (F : ∀ base : Heap, K.In base → base.Ns mainGlobals mg → FnG P w K mg base CX k fa fd [x] sp) (hbind : ∀ (s : Shared) (u : Value), BindsTo s fd ⟨[u], []⟩ [(x, u)])
    (hsp : ∀ H : Hp, Only H → SqL K H a (ns.map V.int) → sp [.ref a] H (fun v _ => v = .bl true) fun _ _ _ => False)
    (hCX : ∀ H e s', CX [] H s₁ (fun _ _ _ => False) e s' → False) : LawGoal P w fa a s₁ := by
  have main : ∀ H : Hp, Only H → SqL K H a (ns.map V.int) → HOk P w H s₁.heap → (∀ b, H b ≠ none → b = a ∧ K.lookup a = none) → LawGoal P w fa a s₁ := by
    intro H hO hS hok only
    -- what is untracked stands in the base
    have up : ∀ {b : Addr} {o : Obj}, s₁.heap.get? b = some o → H b = none → (hidT s₁.heap H).get? b = some o := fun e n => hidT_get e n
    have free : ∀ {b : Addr} {o : Obj} {es : Array DictEntry} {ep : Nat}, s₁.heap.get? b = some o → o.data = .dict es ep → H b = none := by
      intro b o es ep e d
      refine Classical.byContradiction fun nz => ?_
      obtain ⟨rfl, _⟩ := only b nz
      rw [ha] at e
      cases e
      exact nomatch (show Data.seq vs.toArray _ = Data.dict es ep from d)
    have nsUp : ∀ {b : Addr} {m : Str → Option Value}, s₁.heap.Ns b m → (hidT s₁.heap H).Ns b m := fun ⟨o, es, ep, e, d, r⟩ => ⟨o, es, ep, up e (free e d), d, r⟩
    have KB : K.In (hidT s₁.heap H) := fun b o e => up (KX b o e) (Classical.byContradiction fun nz => by
      obtain ⟨rfl, hk⟩ := only b nz
      rw [hk] at e
      cases e)
    have none0 : ∀ b : Addr, b ∉ frs ([] : List Env) := fun b z => absurd (show b ∈ ([] : List Addr) from z) (by simp)
    have E0 : Env0 P w K mg (hidT s₁.heap H) callerA [] s₁ H :=
      ⟨rfl, ⟨KB, nsUp hns, ⟨mb, nsUp hb, hbb⟩, let ⟨mc, h1, h2⟩ := hlim; ⟨mc, nsUp h1, h2⟩⟩, fun b o e => of_hidT e, Nat.le_of_eq (hidT_size _ _), trivial, fun b z => absurd z (none0 b), hok, .of_eq hg⟩
    refine codeAny_mono ((F _ KB (nsUp hns)).run callerA [] s₁ H ⟨[.ref a], []⟩ [.ref a] [.ref a] _ _ rfl hr E0 (hbind s₁ (.ref a)) (.cons rfl .nil) (hsp H hO hS)) fun r s' h => ?_
    match r, h with
    | .error e, h => exact (hCX H e s' h).elim
    | .ok .next, h => exact h.elim
    | .ok .brk, h => exact h.elim
    | .ok .cont, h => exact h.elim
    | .ok (.ret u), ⟨v, H', os, bare, un, hok', rz, q⟩ =>
      cases (show v = .bl true from q)
      cases (show u = Value.bool true from rz)
      refine ⟨rfl, OldK.of_keep fun b o e => ?_, os, bare⟩
      cases hb' : H b with
      | none => exact un.keep b o e hb' (none0 b) (by simp)
      | some y =>
        rcases hO b with z | ⟨ob, ys, z⟩
        · rw [hb'] at z
          cases z
        · have o1 := (hok b _ z).1
          have o2 := (hok' b _ (un.frzs b ob _ z)).1
          rw [e] at o1
          cases o1
          exact o2
  have rv := vals_ints hi
  have hlen := hi.length
  by_cases hk : K.lookup a = none
  · refine main (fun b => if b = a then some (.frz { cls := .type "list", data := .seq vs.toArray } (.lst (ns.map V.int))) else none) (fun b => ?_) (.inl (.inr ⟨_, if_pos rfl⟩)) (fun b u z => ?_) (fun b z => ?_)
    · by_cases e : b = a
      · exact .inr ⟨_, _, if_pos e⟩
      · exact .inl (if_neg e)
    · by_cases e : b = a
      · subst e
        cases (if_pos rfl).symm.trans z
        exact ⟨ha, by rw [List.length_map]; exact hl, vs, _, rv, ha⟩
      · cases (if_neg e).symm.trans z
    · by_cases e : b = a
      · exact ⟨e, hk⟩
      · exact absurd (if_neg e) z
  · cases ho : K.lookup a with
    | none => exact absurd ho hk
    | some o =>
      have e := KX a o ho
      rw [ha] at e
      cases e
      exact main (fun _ => none) (fun _ => .inl rfl) (.inr ⟨_, vs.toArray, _, ho, rfl, rfl, rfl, by rw [List.size_toArray, hlen]; exact hl, by simpa using rv⟩) (fun b u z => by cases z) (fun b z => absurd rfl z)
end
/-- a law: F gives the written part, the function object, the promise over every base -/
theorem walk_ofG {l : PySem.W.OpenLaw} {n k : Nat} {q : Program} {loose : List Str} {XP : (Str → Option Value) → Heap → Prop} {YP : World → Heap → Prop} {d : DefRec} {CX : World → CXT} {x : Str}
    (hn : l.most = some n) (hn2 : n ≤ sizeLine) (hdf : d.params.defaults = []) (hr : Room k callerA)
    (F : ∀ (w : World) (mg : Str → Option Value) (fa : Addr) (h : Heap), YP w h → h.Ns mainGlobals mg → mg d.name = some (.ref fa) →
      ∃ (K : PySem.W.Frag) (fd : FuncData) (sp : Sp), K.In h ∧ (∀ (s : Shared) (u : Value), BindsTo s fd ⟨[u], []⟩ [(x, u)]) ∧
        (∀ (H : Hp) (a : Addr) (ns : List Int), ns.length ≤ n → Only H → SqL K H a (ns.map V.int) → sp [.ref a] H (fun v _ => v = .bl true) fun _ _ _ => False) ∧
        ∀ base : Heap, K.In base → base.Ns mainGlobals mg → FnG l.prog w K mg base (CX w) k fa fd [x] sp)
    (hCX : ∀ (w : World) (H : Hp) (s : Shared) (e : Value) (s' : Shared), CX w [] H s (fun _ _ _ => False) e s' → False) :
    PySem.W.WalkO q loose XP YP l.row.toRowW d [] (fun f vs => PySem.call f vs) := by
  refine Att.attach_call hn hdf fun w s₀ s₁ mg mb fa o pm cd doc a vs ns G Y ho hd hcd hmg hobj hints hlen hg => ?_
  obtain ⟨K, fd, sp, KX, h1, h2, h3⟩ := F w mg fa _ Y G.T.g hmg
  exact law_callG KX G.T.g G.T.b G.T.builtins G.T.nolimit hg hobj hints (Nat.le_trans hlen hn2) hr h3 h1 (fun H hO hS => h2 H a ns hlen hO hS) fun H e s' => hCX w H s₁ e s'
end L2
namespace L2
open PySem PySem.Spec PyProof.Rows
/-! ### match over sequences of names -/
abbrev TM := V → TS
structure PMs (X : Cx) (cs : List MatchCase) (t : TM) : Prop where
  run : ∀ (pins : List (Addr × Obj)) (s : Shared) (σ : St) (H : Hp) (D : Ends) (v : V) (u : Value) (first : Bool), Inv X pins σ H s → RelV v u → t v D σ H → wpAny (model X.prog X.w) X.A (matchCases cs X.env u first) (SP X pins D) X.xe s
section
variable {X : Cx} {pos pp pq : Pos} {body : List Stmt} {rest : List MatchCase} {t : TS} {r : TM}
theorem ps_match {e : Expr} {te : TE} {cs : List MatchCase} {tm : TM} (he : PE X e te) (h : PMs X cs tm) : PS X (.Match e cs pos) (fun D σ H => te σ H fun v H1 => tm v D σ H1) :=
  ⟨fun pins s σ H D I hw => wpAny_Match (thn (he.run pins s σ H _ I hw) fun u s1 ⟨v, H1, I1, rv, q⟩ => h.run pins s1 σ H1 D v u true I1 rv q)⟩
/-- case _ -/
theorem pm_any (hb : PSs X body t) : PMs X (⟨.MatchAs none none pp, none, body⟩ :: rest) (fun _ => t) :=
  ⟨fun pins s σ H D v u first I rv hw => wpAny_matchCases_cons (wpAny_matchPattern_Capture (wpAny_assignInOrder_none (hb.run pins s σ H D I hw)))⟩
def seqLen : PyData → Option Nat
  | .tuple ds => some ds.length
  | .list ds => some ds.length
  | _ => none
/-- how a value meets a pattern of n names: its items, or not -/
def tSeqCase (K : PySem.W.Frag) (n : Nat) (hit : List V → TS) (miss : TM) : TM := fun v D σ H => ∃ d, Dq K H v d ∧ ((∀ a xs ds, v = .ref a → (d = .tuple ds ∧ SqT K H a xs ∨ d = .list ds ∧ SqL K H a xs) → DqA K H xs ds → xs.length = n → hit xs D σ H) ∧ (seqLen d ≠ some n → miss v D σ H))
theorem ty_flag {pins : List (Addr × Obj)} {s : Shared} {σ : St} {H : Hp} {v : V} {u : Value} {d : PyData} (I : Inv X pins σ H s) (rv : RelV v u) (hd : Dq X.K H v d) (hn : seqLen d = none) {Q : Bool → Shared → Prop} {E : Value → Shared → Prop} (q : Q false s) :
    wpAny (model X.prog X.w) X.A (collectionFlag true u) Q E s := by
  cases hd with
  | non => cases (show u = Value.none from rv); exact wpAny_collectionFlag (T := "NoneType") rfl flag_seq_None q
  | bl b => cases (show u = Value.bool b from rv); exact wpAny_collectionFlag (T := "bool") rfl flag_seq_bool q
  | int i => obtain ⟨t, rfl⟩ := (show ∃ t, u = Value.int i t from rv); exact wpAny_collectionFlag (T := "int") rfl flag_seq_int q
  | str x _ => obtain ⟨t, rfl⟩ := (show ∃ t, u = Value.str x t from rv); exact wpAny_collectionFlag (T := "str") rfl flag_seq_str q
  | lst _ _ => cases hn
  | tup _ _ => cases hn
  | @dct a h =>
    cases rv
    obtain ⟨_, _, vs, _, o, es, ep, h1, h2, _⟩ := (show ObjOk X.prog X.w H s.heap a (.dK []) from I.hok a _ h)
    exact wpAny_collectionFlag (T := "dict") ⟨o, h1, h2.1⟩ flag_seq_dict q
theorem seq_pat {pins : List (Addr × Obj)} {s : Shared} {σ : St} {H : Hp} {v : V} {u : Value} {d : PyData} {ps : List Pattern} {Q : Option (List (Str × Value)) → Shared → Prop} (hc : X.calm = true) (I : Inv X pins σ H s) (rv : RelV v u) (hd : Dq X.K H v d)
    (hit : ∀ a xs ds its s', v = .ref a → (d = .tuple ds ∧ SqT X.K H a xs ∨ d = .list ds ∧ SqL X.K H a xs) → DqA X.K H xs ds → xs.length = ps.length → Vals xs its → Inv X pins σ H s' → wpAny (model X.prog X.w) X.A (matchEach ps X.env its) Q X.xe s')
    (miss : seqLen d ≠ some ps.length → ∀ s', Inv X pins σ H s' → Q none s')
    (hstar : ps.findIdx? (·.isStar) = none := by rfl) (hwild : (ps.all fun p => p.isWildcard || (p.isStar && p.names.isEmpty)) = false := by rfl) :
    wpAny (model X.prog X.w) X.A (matchPattern (.MatchSequence ps pos) X.env u) Q X.xe s := by
  have fit : ∀ {xs : List V} {its : List Value}, Vals xs its → xs.length ≤ sizeLine → (its.toArray.size : Int) < 2 ^ 63 := fun {xs its} r h => by
    have e := r.length
    have z := line63
    simp only [List.size_toArray]
    omega
  have kept : ∀ {h' : Heap}, Heap.ExtBut s.heap.objs.size s.heap h' → Inv X pins σ H { s with heap := h', toks := s.toks + 1 + 1 } := fun hx => I.kept (t' := s.toks + 1 + 1) fun b o e => hx b o (Nat.ne_of_lt (Heap.lt_size e)) e
  have plain : seqLen d = none → wpAny (model X.prog X.w) X.A (matchPattern (.MatchSequence ps pos) X.env u) Q X.xe s := fun hn => by
    refine wpAny_matchPattern_Sequence (ty_flag I rv hd hn ?_) hstar hwild
    show Q none s
    exact miss (by rw [hn]; exact nofun) s I
  cases hd with
  | @tup a xs ds hs ha =>
    cases rv
    obtain ⟨its, rz, ht, hz⟩ := I.tuple hs
    have el : xs.length = ds.length := ha.len
    have ei : its.toArray.size = xs.length := by simp [rz.length]
    by_cases hn : its.toArray.size = ps.length
    · refine matchSeq_tuple_hit ht (fit rz hz) hn ?_ hstar hwild
      rw [← hn]
      refine unpackItems_tuple (I.ok.hd hc) ht fun h' hx => ?_
      exact hit a xs ds its _ rfl (.inl ⟨rfl, hs⟩) ha (ei.symm.trans hn) rz (kept hx)
    · exact matchSeq_tuple_miss ht (fit rz hz) hn (miss (fun z => hn (by rw [ei, el]; exact Option.some.inj z)) _ (I.tok _)) hstar hwild
  | @lst a xs ds hs ha =>
    cases rv
    obtain ⟨its, rz, pl, hz⟩ := I.list hs
    have hl' : s.heap.IsList a its.toArray := by
      obtain ⟨o, m, e, c, d, q⟩ := pl
      exact ⟨o, e, c, m, q⟩
    have el : xs.length = ds.length := ha.len
    have ei : its.toArray.size = xs.length := by simp [rz.length]
    by_cases hn : its.toArray.size = ps.length
    · refine matchSeq_list_hit hl' (fit rz hz) hn ?_ hstar hwild
      rw [← hn]
      refine PySem.W.kun_itemsOf (I.ok.hd hc) hl' fun h' hx => ?_
      exact hit a xs ds its _ rfl (.inr ⟨rfl, hs⟩) ha (ei.symm.trans hn) rz (kept hx)
    · exact matchSeq_list_miss hl' (fit rz hz) hn (miss (fun z => hn (by rw [ei, el]; exact Option.some.inj z)) _ (I.tok _)) hstar hwild
  | non => exact plain rfl
  | bl b => exact plain rfl
  | int i => exact plain rfl
  | str x h => exact plain rfl
  | dct h => exact plain rfl
/-- case (x,) -/
theorem pm_seq1 {i : Nat} {x : Str} (hc : X.calm = true) (nd : X.N.Nodup) (hi : X.N[i]? = some x) (hx : X.env.scope.names.lookup x = some .local) (hb : PSs X body t) (hr : PMs X rest r) :
    PMs X (⟨.MatchSequence [.MatchAs none (some x) pp] pq, none, body⟩ :: rest) (tSeqCase X.K 1 (fun xs D σ H => ∀ y, xs = [y] → t D (σ.set i (some y)) H) r) := by
  refine ⟨fun pins s σ H D v u first I rv hw => ?_⟩
  obtain ⟨d, hd, h1, h2⟩ := hw
  refine wpAny_matchCases_cons (seq_pat hc I rv hd (fun a xs ds its s' ev hs ha hl rz I' => ?_) (fun ne s' I' => hr.run pins s' σ H D v u false I' rv (h2 ne)))
  obtain ⟨y, rfl⟩ : ∃ y, xs = [y] := by
    match xs, hl with
    | [y], _ => exact ⟨y, rfl⟩
  obtain ⟨z, rfl, ry⟩ := vals1 rz
  refine wpAny_matchEach_cons (wpAny_matchPattern_Capture (wpAny_matchEach_nil ?_))
  refine wpAny_assignInOrder_more (wpAny_bindName ?_)
  refine store_ok I' nd hi (.inl hx) ry (fun s2 I2 => ?_) (.inr hx)
  exact wpAny_assignInOrder_none (hb.run pins s2 _ H D I2 (h1 a [y] ds ev hs ha rfl y rfl))
/-- case (x, y) -/
theorem pm_seq2 {i j : Nat} {x z : Str} {pr : Pos} (hc : X.calm = true) (nd : X.N.Nodup) (hi : X.N[i]? = some x) (hj : X.N[j]? = some z) (hx : X.env.scope.names.lookup x = some .local) (hz : X.env.scope.names.lookup z = some .local) (hb : PSs X body t) (hr : PMs X rest r) :
    PMs X (⟨.MatchSequence [.MatchAs none (some x) pp, .MatchAs none (some z) pr] pq, none, body⟩ :: rest) (tSeqCase X.K 2 (fun xs D σ H => ∀ y1 y2, xs = [y1, y2] → t D ((σ.set i (some y1)).set j (some y2)) H) r) := by
  refine ⟨fun pins s σ H D v u first I rv hw => ?_⟩
  obtain ⟨d, hd, h1, h2⟩ := hw
  refine wpAny_matchCases_cons (seq_pat hc I rv hd (fun a xs ds its s' ev hs ha hl rz I' => ?_) (fun ne s' I' => hr.run pins s' σ H D v u false I' rv (h2 ne)))
  obtain ⟨y1, y2, rfl⟩ : ∃ y1 y2, xs = [y1, y2] := by
    match xs, hl with
    | [y1, y2], _ => exact ⟨y1, y2, rfl⟩
  obtain ⟨z1, z2, rfl, ry1, ry2⟩ := vals2 rz
  refine wpAny_matchEach_cons (wpAny_matchPattern_Capture (wpAny_matchEach_cons (wpAny_matchPattern_Capture (wpAny_matchEach_nil ?_))))
  refine wpAny_assignInOrder_more (wpAny_bindName ?_)
  refine store_ok I' nd hi (.inl hx) ry1 (fun s2 I2 => ?_) (.inr hx)
  refine wpAny_assignInOrder_more (wpAny_bindName ?_)
  refine store_ok I2 nd hj (.inl hz) ry2 (fun s3 I3 => ?_) (.inr hz)
  exact wpAny_assignInOrder_none (hb.run pins s3 _ H D I3 (h1 a [y1, y2] ds ev hs ha rfl y1 y2 rfl))
end
end L2
namespace L2
open PySem PySem.Spec PyProof.Rows
/-! ### C(e, .., k = v, ..) within a try: what is raised is wished for at the slots -/
def tMakeKS (C : Addr) (n m : Nat) (sp : Sp) (gV : List V → List V → List V) (E : St → XK) (t tk : TA) : TE := fun σ H Q => t σ H fun vs H1 => tk σ H1 fun zs H2 => vs.length = n ∧ zs.length = m ∧ ∀ x dx, H2 x = none → H2 dx = none → dx ≠ x →
  sp (gV (.ref x :: vs) zs) (upd (upd H2 dx (.own x)) x (.ins C dx [])) (fun v H3 => v = .non ∧ Q (.ref x) H3) (E σ)
section
variable {X : Cx} {CX : CXT} {k n : Nat} {f C : Addr} {fd : FuncData} {ps ks : List Str} {sp : Sp} {x : Str} {p pos : Pos} {e : Expr} {es : List Expr} {kws : List Keyword} {t tk : TA} {g : List Value → List Value → List Value} {gV : List V → List V → List V}
theorem run_makeKS {E : XK} {pins : List (Addr × Obj)} {σ : St} {H : Hp} {s : Shared} {Q : VK} {us ws : List Value} {vs zs : List V} (M : Mk X.K C f) (F : FnOk X.prog X.w X.K X.mg X.base CX k f fd ps sp) (hr : Room (k + 1) X.A) (hb : KBn X.K fd ps (n + 1) ks g gV) (hx : PassesAt CX X σ E)
    (I : Inv X pins σ H s) (r : Vals vs us) (rz : Vals zs ws) (l1 : vs.length = n) (l2 : zs.length = ks.length)
    (h : ∀ x dx, H x = none → H dx = none → dx ≠ x → sp (gV (.ref x :: vs) zs) (upd (upd H dx (.own x)) x (.ins C dx [])) (fun v H2 => v = .non ∧ Q (.ref x) H2) E) :
    wpAny (model X.prog X.w) X.A (call (.ref C) us (ks.zip ws)) (EP X pins σ Q) X.xe s := by
  have J := Inv.made (C := C) I
  have hh := h (s.heap.objs.size + 1) s.heap.objs.size (I.hok.fresh (Nat.le_succ _)) (I.hok.fresh (Nat.le_refl _)) (Nat.ne_of_lt (Nat.lt_succ_self _))
  have rr := hb.rel (Paired.cons (show RelV (V.ref (s.heap.objs.size + 1)) (Value.ref (s.heap.objs.size + 1)) from rfl) r) rz
  have ln : (Value.ref (s.heap.objs.size + 1) :: us).length = n + 1 := congrArg (· + 1) (r.length.symm.trans l1)
  have go := F.run _ X.stack _ _ ⟨Value.ref (s.heap.objs.size + 1) :: us, ks.zip ws⟩ _ _ _ E (hr.make C us (ks.zip ws)) (J.env0.make C us (ks.zip ws)) (hb.to _ (Value.ref (s.heap.objs.size + 1) :: us) ws J.kIn ln (rz.length.symm.trans l2)) rr hh
  refine wpAny_call (make_map (f := f) I.kIn M.makes M.init (beq_iff_eq.mp M.fn) (codeAny_mono go fun r s' hq => ?_))
  match r, hq with
  | .error e, hq => exact hx pins _ _ e s' J hq
  | .ok (.ret u), hq =>
    obtain ⟨v, H', I3, rv, rfl, q3⟩ := J.after hq
    exact ⟨rv, ⟨V.ref (s.heap.objs.size + 1), H', I3, rfl, q3⟩⟩
  | .ok .next, hq => exact hq.elim
  | .ok .brk, hq => exact hq.elim
  | .ok .cont, hq => exact hq.elim
theorem pe_makeKS {E : St → XK} (M : Mk X.K C f) (F : FnOk X.prog X.w X.K X.mg X.base CX k f fd ps sp) (hr : Room (k + 1) X.A) (hg : Gl X x) (hm : X.mg x = some (.ref C)) (hb : KBn X.K fd ps (n + 1) ks g gV) (hx : ∀ σ, PassesAt CX X σ (E σ)) (ha : PA X (e :: es) t) (hkw : PK X kws tk)
    (hall : (backToKw pos (keywordEach kws X.env)).all (·.1.isSome) = true := by rfl) (hks : (backToKw pos (keywordEach kws X.env)).filterMap (·.1) = ks := by rfl) (hdb : (x == ("__debug__" : Str)) = false := by decide)
    (he : starEach (e :: es) X.env = (false, eval e X.env) :: starEach es X.env := by rfl) (hpl : ((backTo pos (starEach (e :: es) X.env)).any (·.1) || (backToKw pos (keywordEach kws X.env)).any (·.1.isNone)) = false := by rfl) :
    PE X (.Call (.Name x p) (e :: es) kws pos) (tMakeKS C n ks.length sp gV E t tk) := by
  refine ⟨fun pins s σ H Q I h => wpAny_Call_Name_kw (ld_glob I hg hm (PySem.W.callWith_KW (h₀ := X.base) I.ok.mod.kin M.kp hall (thn (ha.run pos pins s σ H _ I h) fun us s1 hh => ?_) hpl he) hdb)⟩
  obtain ⟨vs, H1, I1, r, q⟩ := hh
  refine thn (hkw.run pos pins s1 σ H1 _ I1 q) fun ws s2 ⟨zs, H2, I2, rz, l1, l2, q2⟩ => ⟨I2.kIn, ?_⟩
  rw [hks]
  exact run_makeKS M F hr hb (hx σ) I2 r rz l1 l2 q2
end
end L2
namespace L2
open PySem PySem.Spec PyProof.Rows
/-! ### written data: a display as one step -/
/-- what stands in H' and did not in H -/
def newOf (H H' : Hp) : Hp := fun b => if H b = none then H' b else none
theorem newOf_some {H H' : Hp} {b : Addr} {o : HO} (h : newOf H H' b = some o) : H b = none ∧ H' b = some o := by
  unfold newOf at h
  by_cases e : H b = none
  · rw [if_pos e] at h
    exact ⟨e, h⟩
  · rw [if_neg e] at h
    cases h
theorem newOf_of {H H' : Hp} {b : Addr} {o : HO} (h1 : H b = none) (h2 : H' b = some o) : newOf H H' b = some o := by
  unfold newOf
  rw [if_pos h1]
  exact h2
theorem newOf_right {H H1 H2 : Hp} (s : Same H1 H2) : Same (newOf H H1) (newOf H H2) := fun b o e => by
  obtain ⟨a, c⟩ := newOf_some e
  exact newOf_of a (s b o c)
theorem newOf_left {H H1 H2 : Hp} (s : Same H H1) : Same (newOf H1 H2) (newOf H H2) := fun b o e => by
  obtain ⟨a, c⟩ := newOf_some e
  exact newOf_of (s.free a) c
theorem newOf_in {H H' : Hp} : Same (newOf H H') H' := fun b o e => (newOf_some e).2
/-- a heap that knows nothing of p -/
def hid (p : Addr) (H : Hp) : Hp := fun b => if b = p then none else H b
theorem newOf_hid {H H' : Hp} {p : Addr} {o : HO} (h : H p = some o) : Same (newOf H H') (hid p H') := fun b u e => by
  obtain ⟨a, c⟩ := newOf_some e
  unfold hid
  rw [if_neg (fun z => by rw [z, h] at a; cases a)]
  exact c
theorem hid_p {p : Addr} {H : Hp} : hid p H p = none := if_pos rfl
theorem hid_in {p : Addr} {H : Hp} : Same (hid p H) H := fun b o e => by
  unfold hid at e
  by_cases z : b = p
  · rw [if_pos z] at e
    cases e
  · rw [if_neg z] at e
    exact e
/-- what H₀ does not know may change -/
theorem Same.mut {H₀ H : Hp} {p : Addr} {o : HO} (s : Same H₀ H) (h : H₀ p = none) : Same H₀ (upd H p o) := fun b u e => by
  rw [upd_ne (ne_of_none e h)]
  exact s b u e
theorem Same.new' {H : Hp} {p : Addr} {o : HO} (h : H p = none) : Same H (upd H p o) := (Same.refl H).mut h
def tLit (K : PySem.W.Frag) (d : PyData) : TE := fun _ H Q => ∀ v H', Same H H' → Dq K (newOf H H') v d → Q v H'
def tLitA (K : PySem.W.Frag) (ds : List PyData) : TA := fun _ H Q => ∀ vs H', Same H H' → DqA K (newOf H H') vs ds → Q vs H'
/-- a list whose place is told: it may be changed -/
def tLitL (K : PySem.W.Frag) (ds : List PyData) : TE := fun _ H Q => ∀ r vs H', H r = none → Same H H' → Same H (upd H' r (.lst vs)) → H' r = none → DqA K (newOf H H') vs ds → Q (.ref r) (upd H' r (.lst vs))
section
variable {X : Cx} {pos : Pos}
theorem PE.imp {e : Expr} {t t' : TE} (h : PE X e t) (f : ∀ σ H Q, t' σ H Q → t σ H Q) : PE X e t' := ⟨fun pins s σ H Q I q => h.run pins s σ H Q I (f σ H Q q)⟩
theorem PA.imp {es : List Expr} {t t' : TA} (h : PA X es t) (f : ∀ σ H Q, t' σ H Q → t σ H Q) : PA X es t' := ⟨fun p pins s σ H Q I q => h.run p pins s σ H Q I (f σ H Q q)⟩
theorem pl_int {i j} : PE X (.Constant (.int i) j pos) (tLit X.K (.int i)) := pe_int.imp fun _ H Q q => q _ H (Same.refl H) (.int i)
theorem pl_neg {i j} {p : Pos} : PE X (.UnaryOp .USub (.Constant (.int i) j p) pos) (tLit X.K (.int (-i))) := (pe_un un_neg pe_int).imp fun _ H Q q => ⟨i, rfl, q _ H (Same.refl H) (.int (-i))⟩
theorem pl_bl {b j} : PE X (.Constant (.bool b) j pos) (tLit X.K (.bool b)) := pe_bl.imp fun _ H Q q => q _ H (Same.refl H) (.bl b)
theorem pl_non {j} : PE X (.Constant .none j pos) (tLit X.K .none) := pe_non.imp fun _ H Q q => q _ H (Same.refl H) .non
theorem pl_str {x j} (h : x.length ≤ sizeLine := by decide) : PE X (.Constant (.str x) j pos) (tLit X.K (.str x)) := pe_str.imp fun _ H Q q => q _ H (Same.refl H) (.str x h)
theorem pla_nil : PA X [] (tLitA X.K []) := pa_nil.imp fun _ H Q q => q _ H (Same.refl H) .nil
theorem pla_cons {e : Expr} {es : List Expr} {d : PyData} {ds : List PyData} (h : PE X e (tLit X.K d)) (r : PA X es (tLitA X.K ds)) (he : starEach (e :: es) X.env = (false, eval e X.env) :: starEach es X.env := by rfl) : PA X (e :: es) (tLitA X.K (d :: ds)) :=
  (pa_cons h r he).imp fun σ H Q q v H1 s1 hd vs H2 s2 hds => q _ H2 (s1.trans s2) (.cons (hd.up (newOf_right s2)) (hds.up (newOf_left s1)))
theorem pl_tup {es : List Expr} {k : Nat} {ds : List PyData} (h : PA X es (tLitA X.K ds)) (hz : ds.length ≤ sizeLine := by decide) : PE X (.Tuple es k pos) (tLit X.K (.tuple ds)) :=
  (pe_tup h).imp fun σ H Q q vs H1 s1 hds => ⟨by rw [hds.len]; exact hz, fun p hp => q _ _ (s1.trans (Same.new' hp)) (.tup (SqT.of (newOf_of (s1.free hp) upd_same)) (hds.up (newOf_right (Same.new' hp))))⟩
theorem pl_lst {es : List Expr} {ds : List PyData} (h : PA X es (tLitA X.K ds)) (hz : ds.length ≤ sizeLine := by decide) : PE X (.List es pos) (tLit X.K (.list ds)) :=
  (pe_lst h).imp fun σ H Q q vs H1 s1 hds => ⟨by rw [hds.len]; exact hz, fun p hp => q _ _ (s1.trans (Same.new' hp)) (.lst (SqL.of (newOf_of (s1.free hp) upd_same)) (hds.up (newOf_right (Same.new' hp))))⟩
theorem pl_lstL {es : List Expr} {ds : List PyData} (h : PA X es (tLitA X.K ds)) (hz : ds.length ≤ sizeLine := by decide) : PE X (.List es pos) (tLitL X.K ds) :=
  (pe_lst h).imp fun σ H Q q vs H1 s1 hds => ⟨by rw [hds.len]; exact hz, fun p hp => q p vs H1 (s1.free hp) s1 (s1.trans (Same.new' hp)) hp hds⟩
theorem pl_dct : PE X (.Dict [] [] pos) (tLit X.K (.dict [])) := pe_dnewK.imp fun σ H Q q d hd => q _ _ (Same.new' hd) (.dct (newOf_of hd upd_same))
end
end L2
/-! dict(zip(xs, ys, strict=True)) of two tuples of one length -/
namespace RZS
open PySem
open PySem.Sem (wp)
section
variable {prog : Program} {w : World} {A : Around} {E : Value → Shared → Prop} {s : Shared}
theorem noe_item {j l : Addr} {i : Nat} {vs : Array Value} {x : Value} {Q : Option Value → Shared → Prop} (hj : s.heap.IsTupleIter j l i)
    (hv : s.heap.IsTuple l vs) (hx : vs[i]? = some x) (hQ : ∀ h', h'.IsTupleIter j l (i + 1) → Heap.SameBut j s.heap h' → Q (some x) { s with heap := h' }) :
    wpAny (model prog w) A (Builtin.SmallTypes.nextOrEnd (.ref j)) Q E s := by
  unfold Builtin.SmallTypes.nextOrEnd
  exact wpAny_bind (wpAny_attempt (RZ.nextOf_tuple_item hj hv hx fun h' a b => wpAny_pure (hQ h' a b)))
theorem noe_end {j l : Addr} {i : Nat} {vs : Array Value} {Q : Option Value → Shared → Prop} (hh : A.handled = none) (hj : s.heap.IsTupleIter j l i)
    (hv : s.heap.IsTuple l vs) (hx : vs[i]? = none) (hQ : ∀ h', Heap.ExtBut j s.heap h' → Q none { s with heap := h' }) :
    wpAny (model prog w) A (Builtin.SmallTypes.nextOrEnd (.ref j)) Q E s := by
  unfold Builtin.SmallTypes.nextOrEnd
  refine wpAny_bind (wpAny_attempt (RZ.nextOf_tuple_end hh hj hv hx fun h' e b ⟨o, ho, hc⟩ => ?_))
  exact wpAny_bind (wpAny_isInstance (T := "StopIteration") (b := true) ⟨o, ho, hc⟩ isSubtype_stop (wpAny_pure (hQ h' b)))
abbrev ZipQ (h : Heap) (z TI TO : Addr) (f0 : Value) (f : Bool) : Prop :=
  h.get? z = some { cls := .type "zip", dict := none, data := .fields #[f0, .bool f, .bool true, .ref TI, .ref TO], slots := #[] }
theorem heldQ {z TI TO T : Addr} {f : Bool} {oT : Obj} {Q : Bool → Shared → Prop} (kz : ZipQ s.heap z TI TO (rawInt T) f) (kT : s.heap.get? T = some oT)
    (q : ∀ h', ZipQ h' z TI TO (rawInt T) true → Heap.SameBut z s.heap h' → Q false { s with heap := h' }) : wpAny (model prog w) A (Builtin.SmallTypes.ownedTupleIsFree (.ref z)) Q E s := by
  unfold Builtin.SmallTypes.ownedTupleIsFree
  refine wpAny_bind (wpAny_field kz rfl (x := rawInt T) rfl ?_)
  show wpAny _ _ (loadIfAlive (((T : Nat) : Int).toNat) >>= _) _ _ _
  rw [Int.toNat_natCast]
  refine wpAny_bind (PySem.W.kdx_alive kT ?_)
  simp only [Option.isNone_some, Bool.false_eq_true, if_false]
  refine wpAny_bind (wpAny_field kz rfl (x := .bool f) rfl ?_)
  cases f with
  | true =>
    rw [if_neg (show ¬ ((Value.bool true != Value.bool true) = true) from Bool.false_ne_true)]
    exact wpAny_pure (q s.heap kz (Heap.SameBut.refl _ _))
  | false =>
    rw [if_pos (show (Value.bool false != Value.bool true) = true from rfl)]
    exact wpAny_bind (wpAny_setField_rec kz (by simp) fun g kg sg => wpAny_pure (q g kg sg))
/-- the first pair: the zip's own tuple is free -/
theorem firstQ {z TI TO i1 i2 l1 l2 : Addr} {k1 k2 : Nat} {xs ys : Array Value} {x y a b : Value} {Q : Value → Shared → Prop} (D : ZipApart z TI TO i1 i2 l1 l2)
    (kz : ZipQ s.heap z TI TO .none false) (kI : IsPair s.heap TI (.ref i1) (.ref i2)) (kO : IsPair s.heap TO a b)
    (j1 : s.heap.IsTupleIter i1 l1 k1) (j2 : s.heap.IsTupleIter i2 l2 k2) (m1 : s.heap.IsTuple l1 xs) (m2 : s.heap.IsTuple l2 ys) (hx : xs[k1]? = some x) (hy : ys[k2]? = some y)
    (q : ∀ h', ZipQ h' z TI TO (rawInt s.heap.objs.size) false → IsPair h' TO x y → h'.IsTupleIter i1 l1 (k1 + 1) → h'.IsTupleIter i2 l2 (k2 + 1) → IsPair h' s.heap.objs.size x y →
      (∀ c o, c ≠ z → c ≠ TO → c ≠ i1 → c ≠ i2 → s.heap.get? c = some o → h'.get? c = some o) → Q (.ref s.heap.objs.size) { s with heap := h' }) :
    wpAny (model prog w) A (Builtin.«zip.__next__» ⟨[.ref z], []⟩) (fun fin s' => ∃ v, fin = .done (.ret v) ∧ Q v s') E s := by
  show wpAny _ _ (field (.ref z) 2 >>= _) _ _ _
  refine wpAny_bind (wpAny_field kz rfl (x := .bool true) rfl ?_)
  show wpAny _ _ (field (.ref z) 3 >>= _) _ _ _
  refine wpAny_bind (wpAny_field kz rfl (x := .ref TI) rfl ?_)
  refine wpAny_bind (wpAny_seqItems kI rfl ?_)
  show wpAny _ _ (Builtin.SmallTypes.ownedTupleIsFree (.ref z) >>= _) _ _ _
  refine wpAny_bind ?_
  unfold Builtin.SmallTypes.ownedTupleIsFree
  refine wpAny_bind (wpAny_field kz rfl (x := .none) rfl (wpAny_pure ?_))
  simp only [if_true]
  refine wpAny_bind (wpAny_rule ?_)
  refine wpAny_bind (wpAny_field kz rfl (x := .ref TO) rfl ?_)
  refine wpAny_bind (wpAny_setField_rec kz (by simp) fun g1 z1 e1 => ?_)
  replace z1 : ZipQ g1 z TI TO .ellipsis false := z1
  refine wpAny_bind ?_
  simp only [List.zipIdx_cons, List.zipIdx_nil, List.forIn_cons, List.forIn_nil]
  refine wpAny_bind (wpAny_bind (wpAny_onRaise ?_))
  show wpAny _ _ (Builtin.SmallTypes.nextOrEnd (.ref i1)) _ _ _
  refine noe_item (j1.extBut e1.extBut D.i1z) (m1.extBut e1.extBut D.l1z) hx fun g2 j1' e2 => ?_
  have o2 : IsPair g2 TO a b := e2.extBut _ _ D.TOi1 (e1.extBut _ _ D.TOz kO)
  refine wpAny_bind (wpAny_seqItems o2 rfl ?_)
  refine wpAny_bind (wpAny_updateSeq_pair o2 fun g3 o3 e3 => ?_)
  replace o3 : IsPair g3 TO x b := o3
  refine wpAny_bind (wpAny_letGo (wpAny_pure ?_))
  refine wpAny_bind (wpAny_bind (wpAny_onRaise ?_))
  show wpAny _ _ (Builtin.SmallTypes.nextOrEnd (.ref i2)) _ _ _
  refine noe_item (((j2.extBut e1.extBut D.i2z).extBut e2.extBut D.i12.symm).extBut e3.extBut D.TOi2.symm) (((m2.extBut e1.extBut D.l2z).extBut e2.extBut D.l2i1).extBut e3.extBut D.l2TO) hy fun g4 j2' e4 => ?_
  have o4 : IsPair g4 TO x b := e4.extBut _ _ D.TOi2 o3
  refine wpAny_bind (wpAny_seqItems o4 rfl ?_)
  refine wpAny_bind (wpAny_updateSeq_pair o4 fun g5 o5 e5 => ?_)
  replace o5 : IsPair g5 TO x y := o5
  refine wpAny_bind (wpAny_letGo (wpAny_pure (wpAny_pure ?_)))
  refine wpAny_bind (wpAny_seqItems o5 rfl ?_)
  refine wpAny_bind (wpAny_newTuple ?_)
  have hsz : g5.objs.size = s.heap.objs.size := by rw [e5.1, e4.1, e3.1, e2.1, e1.1]
  have z5 : ZipQ g5 z TI TO .ellipsis false := e5.extBut _ _ D.TOz.symm (e4.extBut _ _ D.i2z.symm (e3.extBut _ _ D.TOz.symm (e2.extBut _ _ D.i1z.symm z1)))
  have k5 : ∀ c o, c ≠ z → c ≠ TO → c ≠ i1 → c ≠ i2 → s.heap.get? c = some o → g5.get? c = some o := fun c o c1 c2 c3 c4 e =>
    e5.extBut _ _ c2 (e4.extBut _ _ c4 (e3.extBut _ _ c2 (e2.extBut _ _ c3 (e1.extBut _ _ c1 e))))
  have a1 : g5.IsTupleIter i1 l1 (k1 + 1) := ((j1'.extBut e3.extBut D.TOi1.symm).extBut e4.extBut D.i12).extBut e5.extBut D.TOi1.symm
  have a2 : g5.IsTupleIter i2 l2 (k2 + 1) := j2'.extBut e5.extBut D.TOi2.symm
  have hzlt : z < g5.objs.size := Heap.lt_size z5
  show wpAny _ _ (Builtin.SmallTypes.ownedTupleHandOut (.ref z) (.ref g5.objs.size) >>= _) _ _ _
  refine wpAny_bind ?_
  unfold Builtin.SmallTypes.ownedTupleHandOut
  have z6 : ZipQ (g5.push { cls := .type "tuple", data := .seq #[x, y] }) z TI TO .ellipsis false := Heap.get?_push_of_some _ z5
  refine wpAny_bind (wpAny_setField_rec z6 (by simp) fun g7 z7 e7 => ?_)
  replace z7 : ZipQ g7 z TI TO (rawInt g5.objs.size) false := z7
  refine wpAny_setField_rec z7 (by simp) fun g8 z8 e8 => ?_
  replace z8 : ZipQ g8 z TI TO (rawInt g5.objs.size) false := z8
  have up : ∀ c o, c ≠ z → g5.get? c = some o → g8.get? c = some o := fun c o c1 e => e8.extBut _ _ c1 (e7.extBut _ _ c1 (Heap.get?_push_of_some _ e))
  have t8 : IsPair g8 g5.objs.size x y := e8.extBut _ _ (Nat.ne_of_gt hzlt) (e7.extBut _ _ (Nat.ne_of_gt hzlt) (Heap.get?_push_size _ rfl))
  rw [hsz] at z8 t8
  refine wpAny_pure ⟨_, rfl, ?_⟩
  show Q (.ref g5.objs.size) _
  rw [hsz]
  exact q g8 z8 (up _ _ D.TOz o5) (a1.at fun o e => up _ o D.i1z e) (a2.at fun o e => up _ o D.i2z e) t8 fun c o c1 c2 c3 c4 e => up c o c1 (k5 c o c1 c2 c3 c4 e)
/-- a later pair: the tuple that was given out stands -/
theorem laterQ {z TI TO T i1 i2 l1 l2 : Addr} {f : Bool} {oT : Obj} {k1 k2 : Nat} {xs ys : Array Value} {x y : Value} {Q : Value → Shared → Prop} (D : ZipApart z TI TO i1 i2 l1 l2)
    (kz : ZipQ s.heap z TI TO (rawInt T) f) (kT : s.heap.get? T = some oT) (kI : IsPair s.heap TI (.ref i1) (.ref i2))
    (j1 : s.heap.IsTupleIter i1 l1 k1) (j2 : s.heap.IsTupleIter i2 l2 k2) (m1 : s.heap.IsTuple l1 xs) (m2 : s.heap.IsTuple l2 ys) (hx : xs[k1]? = some x) (hy : ys[k2]? = some y)
    (q : ∀ h', ZipQ h' z TI TO (rawInt T) true → h'.IsTupleIter i1 l1 (k1 + 1) → h'.IsTupleIter i2 l2 (k2 + 1) → IsPair h' s.heap.objs.size x y →
      (∀ c o, c ≠ z → c ≠ i1 → c ≠ i2 → s.heap.get? c = some o → h'.get? c = some o) → Q (.ref s.heap.objs.size) { s with heap := h' }) :
    wpAny (model prog w) A (Builtin.«zip.__next__» ⟨[.ref z], []⟩) (fun fin s' => ∃ v, fin = .done (.ret v) ∧ Q v s') E s := by
  show wpAny _ _ (field (.ref z) 2 >>= _) _ _ _
  refine wpAny_bind (wpAny_field kz rfl (x := .bool true) rfl ?_)
  show wpAny _ _ (field (.ref z) 3 >>= _) _ _ _
  refine wpAny_bind (wpAny_field kz rfl (x := .ref TI) rfl ?_)
  refine wpAny_bind (wpAny_seqItems kI rfl ?_)
  show wpAny _ _ (Builtin.SmallTypes.ownedTupleIsFree (.ref z) >>= _) _ _ _
  refine wpAny_bind (heldQ kz kT fun g1 z1 e1 => ?_)
  simp only [Bool.false_eq_true, if_false]
  refine wpAny_bind ?_
  rw [← Array.forIn_toList]
  simp only [List.forIn_cons, List.forIn_nil]
  refine wpAny_bind (wpAny_bind (wpAny_holding ?_))
  show wpAny _ _ (Builtin.SmallTypes.nextOrEnd (.ref i1)) _ _ _
  refine noe_item (s := { s with heap := g1 }) (j1.extBut e1.extBut D.i1z) (m1.extBut e1.extBut D.l1z) hx fun g2 j1' e2 => ?_
  refine wpAny_pure ?_
  refine wpAny_bind (wpAny_bind (wpAny_holding ?_))
  show wpAny _ _ (Builtin.SmallTypes.nextOrEnd (.ref i2)) _ _ _
  refine noe_item (s := { s with heap := g2 }) ((j2.extBut e1.extBut D.i2z).extBut e2.extBut D.i12.symm) ((m2.extBut e1.extBut D.l2z).extBut e2.extBut D.l2i1) hy fun g3 j2' e3 => ?_
  refine wpAny_pure (wpAny_pure ?_)
  show wpAny _ _ (newTuple [x, y] >>= _) _ _ _
  refine wpAny_bind (wpAny_newTuple ?_)
  have hsz : g3.objs.size = s.heap.objs.size := by rw [e3.1, e2.1, e1.1]
  have z3 : ZipQ g3 z TI TO (rawInt T) true := e3.extBut _ _ D.i2z.symm (e2.extBut _ _ D.i1z.symm z1)
  have hk : ∀ c o, c ≠ z → c ≠ i1 → c ≠ i2 → s.heap.get? c = some o → g3.get? c = some o := fun c o c1 c2 c3 e => e3.extBut _ _ c3 (e2.extBut _ _ c2 (e1.extBut _ _ c1 e))
  have a1 : g3.IsTupleIter i1 l1 (k1 + 1) := j1'.extBut e3.extBut D.i12
  refine wpAny_pure ⟨_, rfl, ?_⟩
  show Q (.ref g3.objs.size) _
  have hp : IsPair (g3.push { cls := .type "tuple", data := .seq #[x, y] }) g3.objs.size x y := Heap.get?_push_size _ rfl
  rw [hsz] at hp ⊢
  exact q _ (Heap.get?_push_of_some _ z3) (a1.at fun o e => Heap.get?_push_of_some _ e) (j2'.at fun o e => Heap.get?_push_of_some _ e) hp fun c o c1 c2 c3 e => Heap.get?_push_of_some _ (hk c o c1 c2 c3 e)
/-- both at their ends -/
theorem endQ {z TI TO T i1 i2 l1 l2 : Addr} {f : Bool} {oT : Obj} {k1 k2 : Nat} {xs ys : Array Value} {Q : Fin → Shared → Prop} (hh : A.handled = none) (D : ZipApart z TI TO i1 i2 l1 l2)
    (kz : ZipQ s.heap z TI TO (rawInt T) f) (kT : s.heap.get? T = some oT) (kI : IsPair s.heap TI (.ref i1) (.ref i2))
    (j1 : s.heap.IsTupleIter i1 l1 k1) (j2 : s.heap.IsTupleIter i2 l2 k2) (m1 : s.heap.IsTuple l1 xs) (m2 : s.heap.IsTuple l2 ys) (hx : xs[k1]? = none) (hy : ys[k2]? = none)
    (q : ∀ h' e, (∀ c o, c ≠ z → c ≠ i1 → c ≠ i2 → s.heap.get? c = some o → h'.get? c = some o) → (∃ o, h'.get? e = some o ∧ o.cls = .type "StopIteration") → E (.ref e) { s with heap := h' }) :
    wpAny (model prog w) A (Builtin.«zip.__next__» ⟨[.ref z], []⟩) Q E s := by
  show wpAny _ _ (field (.ref z) 2 >>= _) _ _ _
  refine wpAny_bind (wpAny_field kz rfl (x := .bool true) rfl ?_)
  show wpAny _ _ (field (.ref z) 3 >>= _) _ _ _
  refine wpAny_bind (wpAny_field kz rfl (x := .ref TI) rfl ?_)
  refine wpAny_bind (wpAny_seqItems kI rfl ?_)
  show wpAny _ _ (Builtin.SmallTypes.ownedTupleIsFree (.ref z) >>= _) _ _ _
  refine wpAny_bind (heldQ kz kT fun g1 z1 e1 => ?_)
  simp only [Bool.false_eq_true, if_false]
  refine wpAny_bind ?_
  rw [← Array.forIn_toList]
  simp only [List.forIn_cons, List.forIn_nil]
  refine wpAny_bind (wpAny_bind (wpAny_holding ?_))
  show wpAny _ _ (Builtin.SmallTypes.nextOrEnd (.ref i1)) _ _ _
  refine noe_end (s := { s with heap := g1 }) hh (j1.extBut e1.extBut D.i1z) (m1.extBut e1.extBut D.l1z) hx fun g2 e2 => ?_
  refine wpAny_bind ?_
  show wpAny _ _ (forIn ((([Value.ref i1, Value.ref i2] : List Value).drop 1).zipIdx 1) PUnit.unit _ >>= _) _ _ _
  refine wpAny_bind ?_
  simp only [List.drop_succ_cons, List.drop_zero, List.zipIdx_cons, List.zipIdx_nil, List.forIn_cons, List.forIn_nil]
  refine wpAny_bind (wpAny_bind ?_)
  refine noe_end (s := { s with heap := g2 }) hh (((j2.extBut e1.extBut D.i2z).at fun o e => e2 _ o D.i12.symm e)) (((m2.extBut e1.extBut D.l2z)).at fun o e => e2 _ o D.l2i1 e) hy fun g3 e3 => ?_
  rw [if_neg (show ¬ ((none : Option Value).isSome = true) from Bool.false_ne_true)]
  refine wpAny_pure (wpAny_pure (wpAny_bind (wpAny_rule ?_)))
  show wpAny _ _ (newExc (.type "StopIteration") [] >>= _) _ _ _
  refine wpAny_bind ?_
  simp only [newExc, newTuple]
  refine wpAny_bind (wpAny_newObj_type ?_ (by size_fits))
  refine wpAny_bind (m := firstArgMember _ _) (wpAny_of_eq (a := Value.none) (by first | rfl | (simp only [firstArgMember]; rfl)) ?_)
  refine wpAny_newObj_type ?_ (by size_fits)
  simp only [raiseNew]
  refine wpAny_bind (wpAny_handled ?_)
  first | rw [show A.in1.handled = none from hh] | rw [hh]
  refine wpAny_bind (wpAny_pure (wpAny_throw ?_))
  exact q _ _ (fun c o c1 c2 c3 e => Heap.get?_push_of_some _ (Heap.get?_push_of_some _ (e3 _ _ c3 (e2 _ _ c2 (e1.extBut _ _ c1 e))))) ⟨_, Heap.get?_push_size _ rfl, rfl⟩
theorem nextQ_first {z TI TO i1 i2 l1 l2 : Addr} {k1 k2 : Nat} {xs ys : Array Value} {x y a b : Value} {Q : Option Value → Shared → Prop} (D : ZipApart z TI TO i1 i2 l1 l2)
    (kz : ZipQ s.heap z TI TO .none false) (kI : IsPair s.heap TI (.ref i1) (.ref i2)) (kO : IsPair s.heap TO a b)
    (j1 : s.heap.IsTupleIter i1 l1 k1) (j2 : s.heap.IsTupleIter i2 l2 k2) (m1 : s.heap.IsTuple l1 xs) (m2 : s.heap.IsTuple l2 ys) (hx : xs[k1]? = some x) (hy : ys[k2]? = some y)
    (q : ∀ h', ZipQ h' z TI TO (rawInt s.heap.objs.size) false → IsPair h' TO x y → h'.IsTupleIter i1 l1 (k1 + 1) → h'.IsTupleIter i2 l2 (k2 + 1) → IsPair h' s.heap.objs.size x y →
      (∀ c o, c ≠ z → c ≠ TO → c ≠ i1 → c ≠ i2 → s.heap.get? c = some o → h'.get? c = some o) → Q (some (.ref s.heap.objs.size)) { s with heap := h' }) : wpAny (model prog w) A (pyNext (.ref z)) Q E s := by
  have ht : s.TypeIs (.ref z) "zip" := ⟨_, kz, rfl⟩
  unfold pyNext
  exact wpAny_bind (wpAny_attempt (wpAny_callSpecial?_slot (name := Str.ofString "__next__") ht F.slot_zip_next (wpAny_call_entry F.slot_zip_next ht F.entry_zip_next
      (firstQ D kz kI kO j1 j2 m1 m2 hx hy fun h' a1 a2 a3 a4 a5 a6 => wpAny_pure (q h' a1 a2 a3 a4 a5 a6)) (F.args_zip_next_1 _))))
theorem nextQ_later {z TI TO T i1 i2 l1 l2 : Addr} {f : Bool} {oT : Obj} {k1 k2 : Nat} {xs ys : Array Value} {x y : Value} {Q : Option Value → Shared → Prop} (D : ZipApart z TI TO i1 i2 l1 l2)
    (kz : ZipQ s.heap z TI TO (rawInt T) f) (kT : s.heap.get? T = some oT) (kI : IsPair s.heap TI (.ref i1) (.ref i2))
    (j1 : s.heap.IsTupleIter i1 l1 k1) (j2 : s.heap.IsTupleIter i2 l2 k2) (m1 : s.heap.IsTuple l1 xs) (m2 : s.heap.IsTuple l2 ys) (hx : xs[k1]? = some x) (hy : ys[k2]? = some y)
    (q : ∀ h', ZipQ h' z TI TO (rawInt T) true → h'.IsTupleIter i1 l1 (k1 + 1) → h'.IsTupleIter i2 l2 (k2 + 1) → IsPair h' s.heap.objs.size x y →
      (∀ c o, c ≠ z → c ≠ i1 → c ≠ i2 → s.heap.get? c = some o → h'.get? c = some o) → Q (some (.ref s.heap.objs.size)) { s with heap := h' }) : wpAny (model prog w) A (pyNext (.ref z)) Q E s := by
  have ht : s.TypeIs (.ref z) "zip" := ⟨_, kz, rfl⟩
  unfold pyNext
  exact wpAny_bind (wpAny_attempt (wpAny_callSpecial?_slot (name := Str.ofString "__next__") ht F.slot_zip_next (wpAny_call_entry F.slot_zip_next ht F.entry_zip_next
      (laterQ D kz kT kI j1 j2 m1 m2 hx hy fun h' a1 a2 a3 a4 a5 => wpAny_pure (q h' a1 a2 a3 a4 a5)) (F.args_zip_next_1 _))))
theorem nextQ_end {z TI TO T i1 i2 l1 l2 : Addr} {f : Bool} {oT : Obj} {k1 k2 : Nat} {xs ys : Array Value} {Q : Option Value → Shared → Prop} (hh : A.handled = none) (D : ZipApart z TI TO i1 i2 l1 l2)
    (kz : ZipQ s.heap z TI TO (rawInt T) f) (kT : s.heap.get? T = some oT) (kI : IsPair s.heap TI (.ref i1) (.ref i2))
    (j1 : s.heap.IsTupleIter i1 l1 k1) (j2 : s.heap.IsTupleIter i2 l2 k2) (m1 : s.heap.IsTuple l1 xs) (m2 : s.heap.IsTuple l2 ys) (hx : xs[k1]? = none) (hy : ys[k2]? = none)
    (q : ∀ h', (∀ c o, c ≠ z → c ≠ i1 → c ≠ i2 → s.heap.get? c = some o → h'.get? c = some o) → Q none { s with heap := h' }) : wpAny (model prog w) A (pyNext (.ref z)) Q E s := by
  have ht : s.TypeIs (.ref z) "zip" := ⟨_, kz, rfl⟩
  unfold pyNext
  refine wpAny_bind (wpAny_attempt (wpAny_callSpecial?_slot (name := Str.ofString "__next__") ht F.slot_zip_next (wpAny_call_entry F.slot_zip_next ht F.entry_zip_next
      (endQ hh D kz kT kI j1 j2 m1 m2 hx hy fun h' e hk ⟨o, ho, hc⟩ => ?_) (F.args_zip_next_1 _))))
  exact wpAny_bind (wpAny_isInstance (T := "StopIteration") (b := true) ⟨o, ho, hc⟩ isSubtype_stop (wpAny_pure (q _ hk)))
theorem iterQ {z TI TO : Addr} {f0 : Value} {f : Bool} {Q : Value → Shared → Prop} (kz : ZipQ s.heap z TI TO f0 f) (q : Q (.ref z) s) : wpAny (model prog w) A (pyIter (.ref z)) Q E s := by
  have ht : s.TypeIs (.ref z) "zip" := ⟨_, kz, rfl⟩
  refine wpAny_pyIter_slot ht F.slot_zip_iter (wpAny_call_entry F.slot_zip_iter ht F.entry_zip_iter ?_ (F.args_zip_iter_1 _))
  show wpAny _ _ (ret (.ref z)) _ _ s
  exact wpAny_pure ⟨_, rfl, "zip", _, ht, F.slot_zip_next.lookup, q⟩
end
section
variable {prog : Program} {w : World}
theorem argQ (z TI TO i1 i2 l1 l2 : Addr) (D : ZipApart z TI TO i1 i2 l1 l2) (xs ys : Array Value) (hn : 0 < xs.size) (he : xs.size = ys.size) :
    PairArg prog w "zip" z [z, TI, TO, i1, i2, l1, l2] [z, TO, i1, i2] xs.size (fun i k v => xs[i]? = some k ∧ ys[i]? = some v)
      (fun h => ZipQ h z TI TO .none false ∧ IsPair h TI (.ref i1) (.ref i2) ∧ (∃ a b, IsPair h TO a b) ∧ h.IsTupleIter i1 l1 0 ∧ h.IsTupleIter i2 l2 0 ∧ h.IsTuple l1 xs ∧ h.IsTuple l2 ys) where
  type := fun s ok => ⟨_, ok.1, rfl⟩
  notDict := by decide
  keep := fun h h' ok hk => by
    obtain ⟨kz, kI, ⟨a, b, kO⟩, j1, j2, m1, m2⟩ := ok
    exact ⟨hk _ _ kz, hk _ _ kI, ⟨a, b, hk _ _ kO⟩, j1.at fun o e => hk _ o e, j2.at fun o e => hk _ o e, m1.at fun o e => hk _ o e, m2.at fun o e => hk _ o e⟩
  there := fun h ok b hb => by
    obtain ⟨kz, kI, ⟨a, c, kO⟩, ⟨o1, j1, _⟩, ⟨o2, j2, _⟩, ⟨o3, m1, _⟩, ⟨o4, m2, _⟩⟩ := ok
    simp only [List.mem_cons, List.not_mem_nil, or_false] at hb
    rcases hb with rfl | rfl | rfl | rfl | rfl | rfl | rfl
    all_goals first | exact ⟨_, kz⟩ | exact ⟨_, kI⟩ | exact ⟨_, kO⟩ | exact ⟨_, j1⟩ | exact ⟨_, j2⟩ | exact ⟨_, m1⟩ | exact ⟨_, m2⟩
  sub := fun b hb => by simp at hb ⊢; rcases hb with rfl | rfl | rfl | rfl <;> simp
  noKeys := fun A s Q E hA ok h => getAttrOr_miss_zip ok.1 rfl rfl rfl zip_no_keys (by decide +kernel) hA h
  iter := fun A s d Q E hA ok hd hdf h => by
    obtain ⟨kz, kI, ⟨a, b, kO⟩, j1, j2, m1, m2⟩ := ok
    simp only [List.mem_cons, List.not_mem_nil, or_false, not_or] at hdf
    obtain ⟨dz, dTI, dTO, di1, di2, dl1, dl2⟩ := hdf
    refine iterQ kz (h z [z, TO, i1, i2] (fun i h => IsPair h TI (.ref i1) (.ref i2) ∧ h.IsTupleIter i1 l1 i ∧ h.IsTupleIter i2 l2 i ∧ h.IsTuple l1 xs ∧ h.IsTuple l2 ys ∧
      ((i = 0 ∧ ZipQ h z TI TO .none false ∧ ∃ a b, IsPair h TO a b) ∨ ∃ (T : Addr) (f : Bool) (oT : Obj), ZipQ h z TI TO (rawInt T) f ∧ h.get? T = some oT ∧ T ≠ z ∧ T ≠ i1 ∧ T ≠ i2 ∧ T ≠ d)) s.heap s.toks ?_
      ⟨kI, j1, j2, m1, m2, .inl ⟨rfl, kz, a, b, kO⟩⟩ (fun _ _ e => e) fun b hb => .inl hb)
    exact {
      off := fun hm => by
        simp only [List.mem_cons, List.not_mem_nil, or_false] at hm
        rcases hm with e | e | e | e
        · exact dz e
        · exact dTO e
        · exact di1 e
        · exact di2 e
      frame := fun i h₁ h₂ st hk => by
        obtain ⟨kI, j1, j2, m1, m2, kz⟩ := st
        refine ⟨hk _ _ (Ne.symm dTI) kI, j1.at fun o e => hk _ o (Ne.symm di1) e, j2.at fun o e => hk _ o (Ne.symm di2) e, m1.at fun o e => hk _ o (Ne.symm dl1) e, m2.at fun o e => hk _ o (Ne.symm dl2) e, ?_⟩
        rcases kz with ⟨z0, kz, a, b, kO⟩ | ⟨T, f, oT, kz, kT, r1, r2, r3, r4⟩
        · exact .inl ⟨z0, hk _ _ (Ne.symm dz) kz, a, b, hk _ _ (Ne.symm dTO) kO⟩
        · exact .inr ⟨T, f, oT, hk _ _ (Ne.symm dz) kz, hk _ _ r4 kT, r1, r2, r3, r4⟩
      item := fun i s₁ Q₁ E₁ hi st hds hQ => by
        obtain ⟨kI, j1, j2, m1, m2, kz⟩ := st
        have ex := Array.getElem?_eq_getElem hi
        have ey := Array.getElem?_eq_getElem (he ▸ hi)
        have lt : ∀ {c o}, s₁.heap.get? c = some o → s₁.heap.objs.size ≠ c := fun e => Nat.ne_of_gt (Heap.lt_size e)
        have n1 : s₁.heap.objs.size ≠ i1 := let ⟨_, e, _⟩ := j1; lt e
        have n2 : s₁.heap.objs.size ≠ i2 := let ⟨_, e, _⟩ := j2; lt e
        rcases kz with ⟨z0, kz, a, b, kO⟩ | ⟨T, f, oT, kz, kT, r1, r2, r3, r4⟩
        · refine nextQ_first D kz kI kO j1 j2 m1 m2 ex ey fun h' a1 a2 a3 a4 a5 hk => ?_
          exact hQ s₁.heap.objs.size _ _ h' s₁.toks ⟨ex, ey⟩ (.inl ⟨_, a5, rfl, _, rfl⟩)
            ⟨hk _ _ D.TIz D.TITO D.TIi1 D.TIi2 kI, a3, a4, m1.at fun o e => hk _ o D.l1z D.l1TO D.l1i1 D.l1i2 e, m2.at fun o e => hk _ o D.l2z D.l2TO D.l2i1 D.l2i2 e,
              .inr ⟨s₁.heap.objs.size, false, _, a1, a5, lt kz, n1, n2, Nat.ne_of_gt hds⟩⟩
            fun c o hc e => hk c o (fun x => hc (by simp [x])) (fun x => hc (by simp [x])) (fun x => hc (by simp [x])) (fun x => hc (by simp [x])) e
        · refine nextQ_later D kz kT kI j1 j2 m1 m2 ex ey fun h' a1 a3 a4 a5 hk => ?_
          exact hQ s₁.heap.objs.size _ _ h' s₁.toks ⟨ex, ey⟩ (.inl ⟨_, a5, rfl, _, rfl⟩)
            ⟨hk _ _ D.TIz D.TIi1 D.TIi2 kI, a3, a4, m1.at fun o e => hk _ o D.l1z D.l1i1 D.l1i2 e, m2.at fun o e => hk _ o D.l2z D.l2i1 D.l2i2 e,
              .inr ⟨T, true, oT, a1, hk _ _ r1 r2 r3 kT, r1, r2, r3, r4⟩⟩
            fun c o hc e => hk c o (fun x => hc (by simp [x])) (fun x => hc (by simp [x])) (fun x => hc (by simp [x])) e
      done := fun s₁ Q₁ E₁ st hQ => by
        obtain ⟨kI, j1, j2, m1, m2, kz⟩ := st
        rcases kz with ⟨z0, _⟩ | ⟨T, f, oT, kz, kT, r1, r2, r3, r4⟩
        · omega
        · exact nextQ_end hA D kz kT kI j1 j2 m1 m2 (Array.getElem?_eq_none (Nat.le_refl _)) (Array.getElem?_eq_none (by rw [he]; exact Nat.le_refl _)) fun h' hk => hQ h' s₁.toks fun c o hc e => hk c o (fun x => hc (by simp [x])) (fun x => hc (by simp [x])) (fun x => hc (by simp [x])) e }
end
abbrev zH5 (h : Heap) (l1 l2 : Addr) : Heap := (RZ.zipTH4 h l1 l2).push { cls := .type "zip", data := .fields #[.none, .bool false, .bool true, .ref (RZ.zipTH2 h l1 l2).objs.size, .ref (RZ.zipTH3 h l1 l2).objs.size] }
theorem tc_strict (a b c : Value) : checkTypeCall "zip" ⟨[a, b], [(Str.ofString "strict", c)]⟩ = pure () := by kernel_rfl
theorem nc_strict (a b c : Value) : checkBuiltinCall "zip.__new__" ⟨[.type "zip", a, b], [(Str.ofString "strict", c)]⟩ = pure () := by kernel_rfl
theorem oi_strict (x a b c : Value) : argsOk "object.__init__" ⟨[x, a, b], [(Str.ofString "strict", c)]⟩ := by unfold argsOk; kernel_rfl
theorem newQ (l1 l2 : Addr) (xs ys : Array Value) :
    Meets (Builtin.«zip.__new__» ⟨[.type "zip", .ref l1, .ref l2], [(Str.ofString "strict", .bool true)]⟩) (fun _ R s => s.heap.IsTuple l1 xs ∧ s.heap.IsTuple l2 ys ∧
      R (.ok (.ret (.ref (RZ.zipTH4 s.heap l1 l2).objs.size))) { s with heap := zH5 s.heap l1 l2 }) :=
  .of_wp fun prog w A R s h => by
    obtain ⟨hp, g, d, tk, os⟩ := s; obtain ⟨m1, m2, h⟩ := h
    have hsub := sub_zip
    have M1 : Heap.IsTuple (Shared.heap ⟨hp, g, d, tk, os⟩) l1 xs := m1
    have M2 : Heap.IsTuple (Shared.heap ⟨hp.push { cls := .type "tuple_iterator", data := .fields #[.ref l1, .int 0 0] }, g, d, tk, os⟩) l2 ys := Heap.IsTuple.push m2 _
    have e2 : (Str.ofString "strict" != ("strict" : Str)) = false := by decide +kernel
    wp_walk using wpAny_pyIter_tuple M1, wpAny_pyIter_tuple M2
    exact ⟨_, rfl, h⟩
end RZS
namespace RZS
open PySem
section
variable {prog : Program} {w : World} {A : Around} {E : Value → Shared → Prop} {s : Shared}
theorem callQ {l1 l2 : Addr} {xs ys : Array Value} {Q : Value → Shared → Prop} (m1 : s.heap.IsTuple l1 xs) (m2 : s.heap.IsTuple l2 ys)
    (q : ∀ h', ZipQ h' (s.heap.objs.size + 4) (s.heap.objs.size + 2) (s.heap.objs.size + 3) .none false → IsPair h' (s.heap.objs.size + 2) (.ref s.heap.objs.size) (.ref (s.heap.objs.size + 1)) →
      IsPair h' (s.heap.objs.size + 3) .none .none → h'.IsTupleIter s.heap.objs.size l1 0 → h'.IsTupleIter (s.heap.objs.size + 1) l2 0 → h'.objs.size = s.heap.objs.size + 5 →
      (∀ c o, s.heap.get? c = some o → h'.get? c = some o) → Q (.ref (s.heap.objs.size + 4)) { s with heap := h' }) :
    wpAny (model prog w) A (call (.type "zip") [.ref l1, .ref l2] [(Str.ofString "strict", .bool true)]) Q E s := by
  refine callType_newKw F.called_zip (by decide) (tc_strict _ _ _) (nc_strict _ _ _) (fun x => oi_strict x _ _ _) F.entry_zip_new (newQ l1 l2 xs ys) ⟨m1, m2, ?_⟩
  have n1 : (RZ.zipTH1 s.heap l1).objs.size = s.heap.objs.size + 1 := Heap.size_push ..
  have n2 : (RZ.zipTH2 s.heap l1 l2).objs.size = s.heap.objs.size + 2 := by rw [Heap.size_push, n1]
  have n3 : (RZ.zipTH3 s.heap l1 l2).objs.size = s.heap.objs.size + 3 := by rw [Heap.size_push, n2]
  have n4 : (RZ.zipTH4 s.heap l1 l2).objs.size = s.heap.objs.size + 4 := by rw [Heap.size_push, n3]
  have n5 : (zH5 s.heap l1 l2).objs.size = s.heap.objs.size + 5 := by rw [Heap.size_push, n4]
  have g5 : (zH5 s.heap l1 l2).get? (RZ.zipTH4 s.heap l1 l2).objs.size = some _ := Heap.get?_push_size _ rfl
  have g4 : (zH5 s.heap l1 l2).get? (RZ.zipTH3 s.heap l1 l2).objs.size = some _ := Heap.get?_push_of_some _ (Heap.get?_push_size _ rfl)
  have g3 : (zH5 s.heap l1 l2).get? (RZ.zipTH2 s.heap l1 l2).objs.size = some _ := Heap.get?_push_of_some _ (Heap.get?_push_of_some _ (Heap.get?_push_size _ rfl))
  have g2 : (zH5 s.heap l1 l2).get? (RZ.zipTH1 s.heap l1).objs.size = some _ := Heap.get?_push_of_some _ (Heap.get?_push_of_some _ (Heap.get?_push_of_some _ (Heap.get?_push_size _ rfl)))
  have g1 : (zH5 s.heap l1 l2).get? s.heap.objs.size = some _ := Heap.get?_push_of_some _ (Heap.get?_push_of_some _ (Heap.get?_push_of_some _ (Heap.get?_push_of_some _ (Heap.get?_push_size _ rfl))))
  show _ ∧ _
  rw [n2, n3, n4] at g5
  rw [n1, n2] at g3
  rw [n3] at g4
  rw [n1] at g2
  rw [n4]
  exact ⟨⟨_, g5, rfl⟩, q _ g5 g3 g4 ⟨_, g1, rfl, rfl⟩ ⟨_, g2, rfl, rfl⟩ n5 fun c o x => Heap.get?_push_of_some _ (Heap.get?_push_of_some _ (Heap.get?_push_of_some _ (Heap.get?_push_of_some _ (Heap.get?_push_of_some _ x))))⟩
end
end RZS
namespace L2
open PySem PySem.Spec PyProof.Rows
theorem pairAt {α β : Type} {F : α → β → Prop} : ∀ {xs : List α} {ys : List β} {i : Nat} {x : α}, Paired F xs ys → xs[i]? = some x → ∃ y, ys[i]? = some y ∧ F x y
  | _, _, i, _, .nil, e => by simp at e
  | _, _, 0, _, .cons h _, e => by simp at e; subst e; exact ⟨_, rfl, h⟩
  | _, _, i + 1, x, .cons _ t, e => by
    obtain ⟨y, e1, e2⟩ := pairAt t (i := i) (x := x) (by simpa using e)
    exact ⟨y, by simpa using e1, e2⟩
theorem zip_KV : ∀ {ks : List Key} {ws : List V} {us : List Value}, Vals ws us → KV (ks.zip ws) (ks.zip us)
  | [], _, _, _ => by simp only [List.zip_nil_left]; exact .nil
  | _ :: _, _, _, .nil => by simp only [List.zip_nil_right]; exact .nil
  | k :: ks, _, _, .cons h t => .cons ⟨rfl, h⟩ (zip_KV (ks := ks) t)
/-- dict(zip(a, b, strict=True)), a a tuple of keys, b a tuple of as many values -/
def tDZip (K : PySem.W.Frag) (ta : TA) : TE := fun σ H Q => ta σ H fun vs H1 => ∃ (a b : Addr) (ks : List Key) (ws : List V), vs = [.ref a, .ref b] ∧ SqT K H1 a (ks.map kV) ∧ SqT K H1 b ws ∧ ks.length = ws.length ∧ 0 < ks.length ∧
  ∀ p, H1 p = none → Q (.ref p) (upd H1 p (.dK (mergeK [] (ks.zip ws))))
theorem pe_dzip {X : Cx} {e1 e2 : Expr} {ta : TA} {p p2 q pos cp kp : Pos} {ck : Nat} (hcalm : X.calm = true) (hg : Gl X "dict") (hm : X.mg "dict" = none) (hg2 : Gl X "zip") (hm2 : X.mg "zip" = none) (ha : PA X [e1, e2] ta)
    (he : starEach [e1, e2] X.env = (false, eval e1 X.env) :: starEach [e2] X.env := by rfl) (hpl : (backTo q (starEach [e1, e2] X.env)).any (·.1) = false := by rfl) :
    PE X (.Call (.Name "dict" p) [.Call (.Name "zip" p2) [e1, e2] [⟨some "strict", .Constant (.bool true) ck cp, kp⟩] q] [] pos) (tDZip X.K ta) := by
  refine ⟨fun pins s σ H Q I h => ?_⟩
  refine Call_ (ld_blt I hg hm (show bootBuiltins "dict" = some (.type "dict") from by decide +kernel) ?_)
  refine PyProof.Rows.callWith_type1 (PyProof.Rows.args_cons ?_ rfl) rfl rfl
  refine wpAny_Call_Name_kw (ld_blt I hg2 hm2 (show bootBuiltins "zip" = some (.type "zip") from by decide +kernel) ?_)
  refine PySem.W.callWith_of (P := fun _ => True) (by rw [hpl]; rfl) (fun _ _ => ⟨.machine, .inr (.inl rfl), .now⟩) (evalArgs_kw2 (by rfl) (thn (ha.run q pins s σ H _ I h) fun us s1 ⟨vs, H1, I1, r, q1⟩ => ?_) he)
  refine thn ((pk_cons (nm := some "strict") (kpos := kp) (pe_bl (X := X) (b := true) (j := ck) (pos := cp)) pk_nil).run q pins s1 σ H1 (fun zs H2 => zs = [.bl true] ∧ H2 = H1) I1 ⟨rfl, rfl⟩) fun ws s2 ⟨zs, H2, I2, r2, hz⟩ => ⟨trivial, ?_⟩
  obtain ⟨ez, eH⟩ := hz
  subst eH ez
  obtain ⟨u, eu, ru⟩ := vals1 r2
  subst eu
  cases ru
  obtain ⟨a, b, ks, vs2, ev, hqa, hqb, hlen, hpos, q1⟩ := q1
  subst ev
  obtain ⟨ua, ub, eu, ra, rb⟩ := vals2 r
  subst eu
  cases ra
  cases rb
  obtain ⟨its, rv, ht, hs1⟩ := I2.tuple hqa
  obtain ⟨jts, rw', ht2, hs2⟩ := I2.tuple hqb
  have l1 : its.length = ks.length := by rw [← rv.length, List.length_map]
  have l2 : jts.length = ks.length := by rw [← rw'.length, hlen]
  have a1 : a < s2.heap.objs.size := ht.lt
  have a2 : b < s2.heap.objs.size := ht2.lt
  have t1 : Heap.IsTuple s2.heap a its.toArray := ht
  have t2 : Heap.IsTuple s2.heap b jts.toArray := ht2
  refine RZS.callQ (xs := its.toArray) (ys := jts.toArray) t1 t2 fun h' hz hI hO j1 j2 hsz hk => ?_
  refine PyProof.Rows.args_nil ?_
  have P := RZS.argQ (prog := X.prog) (w := X.w) _ _ _ _ _ a b (zipApart_new a1 a2) its.toArray jts.toArray (by simpa [l1] using hpos) (by simp [l1, l2])
  refine PySem.call_dict_pairs (knd := mixKind X.prog X.w) (kvs := ks.zip jts) P (I2.ok.hd hcalm) ⟨hz, hI, ⟨_, _, hO⟩, j1, j2, t1.at fun o e => hk _ o e, t2.at fun o e => hk _ o e⟩ ?_ (by simp only [List.size_toArray, l1]; omega) fun h'' tk hd hk2 => ?_
  · refine ⟨by simp [l1, l2], fun i key v hr => ?_⟩
    obtain ⟨e1, e2⟩ := hr
    rw [List.getElem?_toArray] at e1 e2
    have hi : i < ks.length := by rw [← l1]; exact (List.getElem?_eq_some_iff.mp e1).1
    obtain ⟨k, ek⟩ : ∃ k, ks[i]? = some k := ⟨ks[i], List.getElem?_eq_getElem hi⟩
    obtain ⟨u, eu, ru⟩ := pairAt rv (i := i) (x := kV k) (by rw [List.getElem?_map, ek]; rfl)
    rw [e1] at eu
    cases eu
    exact ⟨k, List.getElem?_zip_eq_some.mpr ⟨ek, e2⟩, kV_is ru⟩
  · have bg : sysModules < s2.heap.objs.size := I2.big
    have k0 : ∀ c o, s2.heap.get? c = some o → h''.get? c = some o := fun c o e => hk2 c o (by
      have lt : c < s2.heap.objs.size := Heap.lt_size e
      simp only [List.mem_cons, List.not_mem_nil, or_false, not_or]
      exact ⟨Nat.ne_of_lt (Nat.lt_of_lt_of_le lt (Nat.le_add_right _ _)), Nat.ne_of_lt (Nat.lt_of_lt_of_le lt (Nat.le_add_right _ _)), Nat.ne_of_lt lt, Nat.ne_of_lt (Nat.lt_of_lt_of_le lt (Nat.le_add_right _ _))⟩) (hk _ _ e)
    have hm : (h'.objs.size == sysModules) = false := beq_eq_false_iff_ne.mpr (by rw [hsz]; exact Nat.ne_of_gt (Nat.lt_of_lt_of_le bg (Nat.le_add_right _ _)))
    have hl : (mergeK [] (ks.zip vs2)).length ≤ sizeLine := by
      refine Nat.le_trans (length_mergeK _ []) ?_
      simp only [List.length_nil, List.length_zip, Nat.zero_add, ← hlen, Nat.min_self]
      omega
    exact ⟨.ref h'.objs.size, upd H2 h'.objs.size (.dK (mergeK [] (ks.zip vs2))), I2.laid (t' := tk) k0 (by rw [hsz]; omega) (show ObjOk X.prog X.w _ _ _ (.dK (mergeK [] (ks.zip vs2))) from ⟨hl, hm, merged [] (ks.zip jts), KV.merge (zip_KV rw') .nil, hd⟩), rfl, q1 _ (I2.hok.fresh (by rw [hsz]; omega))⟩
end L2
namespace L2
open PySem PySem.Spec PyProof.Rows
/-! ### == and != by an own __eq__ -/
inductive TyI (K : PySem.W.Frag) (H : Hp) : V → Value → Prop
  | ins {b C dx : Addr} {fs : List (Str × V)} : H b = some (.ins C dx fs) → TyI K H (.ref b) (.ref C)
  | non : TyI K H .non (.type "NoneType")
  | bl (b : Bool) : TyI K H (.bl b) (.type "bool")
  | int (i : Int) : TyI K H (.int i) (.type "int")
  | str (x : Str) : TyI K H (.str x) (.type "str")
  | lst {b : Addr} {xs : List V} : SqL K H b xs → TyI K H (.ref b) (.type "list")
  | tup {b : Addr} {xs : List V} : SqT K H b xs → TyI K H (.ref b) (.type "tuple")
section
variable {X : Cx} {pins : List (Addr × Obj)} {σ : St} {H : Hp} {s : Shared}
theorem TyI.looks {y : V} {u tb : Value} (I : Inv X pins σ H s) (t : TyI X.K H y tb) (r : RelV y u) (M : Model) : PySem.W.Looks M s.heap (typeOf u) tb := by
  cases t with
  | ins h =>
    cases r
    obtain ⟨mA, J, _⟩ := ins_get I.hok h
    obtain ⟨od, J, _⟩ := J.look
    exact J.type
  | non => cases r; exact .now
  | bl b => cases r; exact .now
  | int i => obtain ⟨t, rfl⟩ := r; exact .now
  | str x => obtain ⟨t, rfl⟩ := r; exact .now
  | lst h =>
    cases r
    obtain ⟨its, rv, ⟨o, n, ho, hc, _, hd⟩, _⟩ := I.list h
    exact hc ▸ (PySem.W.Looks.ld ho).andThen .now
  | tup h =>
    cases r
    obtain ⟨its, rv, ⟨o, ho, hc, n, hd⟩, _⟩ := I.tuple h
    exact hc ▸ (PySem.W.Looks.ld ho).andThen .now
/-- the call of the own method, somewhere below the running body -/
theorem own_call {CX : CXT} {n : Nat} {f : Addr} {fd : FuncData} {ps : List Str} {sp : Sp} {E : XK} {A : Around} {vs : List V} {us : List Value} {Q : VK} (F : FnOk X.prog X.w X.K X.mg X.base CX n f fd ps sp) (hb : Binds X.K fd ps []) (hx : Passes CX X E)
    (sb : Sub X n A) (I : Inv X pins σ H s) (r : Vals vs us) (h : sp vs H Q E) : wpAny (model X.prog X.w) A (call (.ref f) us) (EP X pins σ Q) X.xe s := by
  have e0 : Env0 X.prog X.w X.K X.mg X.base A X.stack s H := by
    have e := I.env0
    exact ⟨by rw [sb.fr]; exact e.frames, e.mod, e.bs, e.bsz, e.funs, e.frf, e.hok, e.bare⟩
  have hl : us.length = ps.length := r.length ▸ F.len _ _ _ _ h
  refine wpAny_call (codeAny_mono (F.run A X.stack s H ⟨us, []⟩ us vs Q E sb.room e0 (by
    have := hb s us I.kIn (by simpa using hl)
    simpa using this) r h) fun r s' hq => ?_)
  match r, hq with
  | .error e, hq => exact hx pins σ H s e s' I hq
  | .ok (.ret u), hq => exact I.after hq
  | .ok .next, hq => exact False.elim hq
  | .ok .brk, hq => exact False.elim hq
  | .ok .cont, hq => exact False.elim hq
end
section
variable {X : Cx} {CX : CXT} {n : Nat} {C f : Addr} {fd : FuncData} {ps : List Str} {sp : Sp} {E : XK}
def rOwnEq (K : PySem.W.Frag) (C : Addr) (sp : Sp) (E : XK) : R2 := fun x y H Q => ∃ (a dx : Addr) (fs : List (Str × V)) (tb : Value), x = .ref a ∧ H a = some (.ins C dx fs) ∧ TyI K H y tb ∧ PySem.W.notFirst K C tb = true ∧
  sp [x, y] H (fun v H' => ∃ c, v = .bl c ∧ Q (.bl c) H') E
def rOwnNe (K : PySem.W.Frag) (C : Addr) (sp : Sp) (E : XK) : R2 := fun x y H Q => ∃ (a dx : Addr) (fs : List (Str × V)) (tb : Value), x = .ref a ∧ H a = some (.ins C dx fs) ∧ TyI K H y tb ∧ PySem.W.notFirst K C tb = true ∧
  sp [x, y] H (fun v H' => ∃ c, v = .bl c ∧ Q (.bl (!c)) H') E
theorem op_ownEq (F : FnOk X.prog X.w X.K X.mg X.base CX n f fd ps sp) (hs : PySem.W.findIn X.K (.ref C) "__eq__" = some (some (.ref f))) (hf : PySem.W.isFn X.K (.ref f) = true) (hb : Binds X.K fd ps []) (hx : Passes CX X E) (hr : Room n X.A) :
    OpR X (compareOp .Eq) (rOwnEq X.K C sp E) := by
  intro pins s σ H x y v u Q I rx ry h
  obtain ⟨a, dx, fs, tb, rfl, ha, ht, hn, h⟩ := h
  have r2 : Vals [V.ref a, y] [v, u] := .cons rx (.cons ry .nil)
  cases rx
  obtain ⟨mA, J, _⟩ := ins_get I.hok ha
  obtain ⟨od, J, _⟩ := J.look
  obtain ⟨m, hF⟩ := I.fr
  show wpAny (model X.prog X.w) X.A (richCompare .Eq (.ref a) u) (EP X pins σ Q) X.xe s
  refine PySem.W.cmp_K (op := .Eq) (tb := tb) hr.units0 hF I.ok.mod.kin J (ht.looks I ry _) hn hs hf ?_
  refine wpAny_mono (own_call F hb hx ⟨hr, rfl⟩ I r2 h) (fun w s' q => ?_) fun _ _ e => e
  obtain ⟨z, H', I', rz, c, rfl, q⟩ := q
  cases rz
  exact ⟨.bl c, H', I', rfl, q⟩
theorem op_ownNe (F : FnOk X.prog X.w X.K X.mg X.base CX n f fd ps sp) (hs : PySem.W.findIn X.K (.ref C) "__eq__" = some (some (.ref f))) (hf : PySem.W.isFn X.K (.ref f) = true) (hne : PySem.W.findIn X.K (.ref C) "__ne__" = some (some (.builtin "object.__ne__")))
    (hob : PySem.W.mroIn X.K C (.type "object") = some true) (hb : Binds X.K fd ps []) (hx : Passes CX X E) (hr : Room (n + 1) X.A) :
    OpR X (compareOp .NotEq) (rOwnNe X.K C sp E) := by
  intro pins s σ H x y v u Q I rx ry h
  obtain ⟨a, dx, fs, tb, rfl, ha, ht, hn, h⟩ := h
  have r2 : Vals [V.ref a, y] [v, u] := .cons rx (.cons ry .nil)
  cases rx
  obtain ⟨mA, J, _⟩ := ins_get I.hok ha
  obtain ⟨od, J, _⟩ := J.look
  obtain ⟨m, hF⟩ := I.fr
  have KX := I.kIn
  have sb : Sub X (n + 1) X.A := ⟨hr, rfl⟩
  have inner : wpAny (model X.prog X.w) X.A (call (.builtin "object.__ne__") [.ref a, u]) (PySem.W.CmpBack (EP X pins σ Q)) X.xe s := by
    refine wpAny_call (codeAny_call_builtin PySem.F.cmp_object.ne.plain PySem.F.cmpEntry_ne (PySem.W.check_slot PySem.F.cmpKind_ne PySem.F.cmpSplit_ne (J.type.andThen (PySem.W.looks_mroIn KX hob)) (PySem.F.cmpArgs_ne _ _) ?_))
    unfold Builtin.«object.__ne__»
    refine wpAny_bind (m := slotArgs "__ne__" 1 ⟨[.ref a, u], []⟩) (wpAny_of_eq (a := (Value.ref a, [u])) rfl ?_)
    refine wpAny_bind (wpAny_cRoomFor sb.in1.room.units0 ?_)
    refine wpAny_bind (PySem.W.ifBound_K KX J hs hf ?_)
    refine wpAny_mono (own_call F hb hx sb.in1 I r2 h) (fun w s' q => ?_) fun _ _ e => e
    obtain ⟨z, H', I', rz, c, rfl, q⟩ := q
    cases rz
    refine wpAny_bind (wpAny_truthy_bool (wpAny_pure ?_))
    exact ⟨.bl (!c), H', I', rfl, q⟩
  have one : wpAny (model X.prog X.w) X.A (tryCompare (.ref a) "__ne__" u) (fun r s' => ∃ v, r = some v ∧ EP X pins σ Q v s') X.xe s := by
    have fin : wpAny (model X.prog X.w) X.A (call (.builtin "object.__ne__") ([.ref a] ++ [u]) >>= fun v => pure (some v)) (fun r s' => wpAny (model X.prog X.w) X.A (match r with
        | some .notImplemented | none => pure none
        | some v => pure (some v)) (fun r s' => ∃ v, r = some v ∧ EP X pins σ Q v s') X.xe s') X.xe s :=
      wpAny_bind (wpAny_mono inner (fun v s' hv => wpAny_pure (by cases v <;> first | exact hv.elim | exact wpAny_pure ⟨_, rfl, hv⟩)) fun _ _ h' => h')
    unfold tryCompare
    refine wpAny_bind ?_
    simp only [callSpecialIfBound?, bindSpecialIfBound?]
    refine wpAny_holding (wpAny_bind (wpAny_bind (wpAny_bind (J.type.here ((PySem.W.looks_findIn KX hne).here ?_)))))
    simp only [PySem.F.cmp_object.ne.bind]
    refine wpAny_bind (wpAny_askSetting (wpAny_ite ?_))
    split
    · exact wpAny_bind (wpAny_pure (wpAny_pure fin))
    · exact wpAny_tryCatch (wpAny_bind (wpAny_pure (wpAny_pure fin)))
  show wpAny (model X.prog X.w) X.A (richCompare .NotEq (.ref a) u) (EP X pins σ Q) X.xe s
  unfold richCompare
  simp only [oneThing_ref]
  refine wpAny_holding (wpAny_bind (wpAny_cRoomFor hr.units0 ?_))
  refine wpAny_bind (J.type.here (wpAny_bind ((ht.looks I ry _).here ?_)))
  split
  · rename_i q
    have e : PySem.W.subIn X.K tb (.ref C) = some false := by
      rcases Bool.or_eq_true_iff.mp hn with e | e
      · rw [beq_iff_eq.mp e] at q; simp at q
      · exact beq_iff_eq.mp e
    refine wpAny_bind ((PySem.W.looks_subIn KX e).here ?_)
    simp only [Bool.false_eq_true, if_false]
    refine wpAny_bind (wpAny_mono one (fun r s' z => ?_) fun _ _ e => e)
    obtain ⟨v, rfl, hq⟩ := z
    exact wpAny_pure hq
  · refine wpAny_bind (wpAny_pure ?_)
    simp only [Bool.false_eq_true, if_false]
    refine wpAny_bind (wpAny_mono one (fun r s' z => ?_) fun _ _ e => e)
    obtain ⟨v, rfl, hq⟩ := z
    exact wpAny_pure hq
end
end L2
namespace L2
open PySem PySem.Spec PyProof.Rows
/-! ### == of two dicts with the same keys, their values data -/
theorem valV_mem {κ : Type} [DecidableEq κ] : ∀ {kvs : List (κ × V)}, (kvs.map (·.1)).Nodup → ∀ p ∈ kvs, valV kvs p.1 = some p.2
  | [], _, p, h => by cases h
  | q :: kvs, hn, p, h => by
    rw [List.map_cons, List.nodup_cons] at hn
    rcases List.mem_cons.mp h with rfl | h
    · simp [valV]
    · have hne : q.1 ≠ p.1 := fun e => hn.1 (e ▸ List.mem_map_of_mem h)
      have := valV_mem hn.2 p h
      unfold valV at this ⊢
      rw [List.find?_cons_of_neg (by simpa using hne)]
      exact this
theorem putK_fresh {κ : Type} [DecidableEq κ] {kvs : List (κ × V)} {k : κ} {v : V} (h : k ∉ kvs.map (·.1)) : putK kvs k v = kvs ++ [(k, v)] := by
  unfold putK
  rw [if_neg]
  simp only [List.any_eq_true, decide_eq_true_eq, not_exists, not_and]
  intro p hp e
  exact h (e ▸ List.mem_map_of_mem hp)
theorem mergeK_new : ∀ {more kvs : List (Key × V)}, ((kvs ++ more).map (·.1)).Nodup → mergeK kvs more = kvs ++ more
  | [], kvs, _ => by simp [mergeK]
  | p :: more, kvs, h => by
    have h2 : ((kvs ++ [p] ++ more).map (·.1)).Nodup := by simpa using h
    have h1 : p.1 ∉ kvs.map (·.1) := by
      rw [List.map_append, List.nodup_append] at h
      intro hm
      exact h.2.2 _ hm _ (by simp) rfl
    show mergeK (putK kvs p.1 p.2) more = _
    rw [putK_fresh h1, mergeK_new h2]
    simp
theorem zip_keys {κ : Type} : ∀ {ks : List κ} {vs : List V}, ks.length = vs.length → (ks.zip vs).map (·.1) = ks
  | [], _, _ => by simp
  | k :: ks, v :: vs, h => by simp [zip_keys (ks := ks) (vs := vs) (by simpa using h)]
theorem hitsD {X : Cx} {pins : List (Addr × Obj)} {σ : St} {H : Hp} {s : Shared} {A : Around} (I : Inv X pins σ H s) (hu : A.units + 64 < cLine) {ls : List (Key × V)} {vb : List (Key × Value)} (rb : KV ls vb) :
    ∀ {ks : List Key} {vs ws : List V} {ds es : List PyData} {va : List (Key × Value)}, ks.length = vs.length → ks.length = ws.length → DpAll X.K H vs ds → DpAll X.K H ws es → (∀ d ∈ ds, SeqAt.shaped d = true) → (∀ d ∈ es, SeqAt.shaped d = true) →
      (∀ p ∈ ks.zip ws, valV ls p.1 = some p.2) → KV (ks.zip vs) va → PySem.W.KeqHitsP X.prog X.w A s vb va (PyData.eqvAll ds es)
  | [], [], [], _, _, _, _, _, .nil, .nil, _, _, _, r => by cases r; exact .nil
  | k :: ks, v :: vs, w :: ws, _, _, _, hl, hl2, .cons (d := d) (ds := ds) hd hds, .cons (d := e) (ds := es) he hes, sd, se, hv, r => by
    unfold KV at r
    rw [List.zip_cons_cons] at r
    cases r with
    | @cons _ q _ qs h t =>
      obtain ⟨key, u⟩ := q
      obtain ⟨h1, h2⟩ := h
      cases (show k = key from h1)
      have hv0 := hv (k, w) (by simp)
      have rr : RelO (some w) (valueAt vb k) := by rw [← hv0]; exact rb.val k
      obtain ⟨y, hy, ry⟩ := rr.some_of
      obtain ⟨as, r1⟩ := Dp.reads I d v u hd h2
      obtain ⟨bs, r2⟩ := Dp.reads I e w y he ry
      have s1 := sd d (by simp)
      have s2 := se e (by simp)
      exact .hit hy (SeqAt.eqAt_reads d e A s u y as bs r1 r2 (SeqAt.canLay_of_shaped s1) (SeqAt.canLay_of_shaped s2) (SeqAt.room_of_shaped s1 hu)).eqP (hitsD I hu rb (by simpa using hl) (by simpa using hl2) hds hes (fun d hd => sd d (by simp [hd])) (fun d hd => se d (by simp [hd])) (fun p hp => hv p (by simp [hp])) t)
def rEqDk (K : PySem.W.Frag) : R2 := fun x y H Q => ∃ (a b : Addr) (ks : List Key) (vs ws : List V) (ds es : List PyData), x = .ref a ∧ y = .ref b ∧ H a = some (.dK (ks.zip vs)) ∧ H b = some (.dK (ks.zip ws)) ∧ ks.Nodup ∧ ks.length = vs.length ∧ ks.length = ws.length ∧
  DpAll K H vs ds ∧ DpAll K H ws es ∧ (∀ d ∈ ds, SeqAt.shaped d = true) ∧ (∀ d ∈ es, SeqAt.shaped d = true) ∧ Q (.bl (PyData.eqvAll ds es)) H
theorem op_eqDk {X : Cx} (hu : X.A.units + 65 < cLine) : OpR X (compareOp .Eq) (rEqDk X.K) := by
  intro pins s σ H x y v u Q I rx ry h
  obtain ⟨a, b, ks, vs, ws, ds, es, rfl, rfl, ha, hb, hn, l1, l2, hd, he, sd, se, q⟩ := h
  cases rx
  cases ry
  obtain ⟨_, ya, va, ra, da⟩ := (show ObjOk X.prog X.w H s.heap a (.dK (ks.zip vs)) from I.hok a _ ha)
  obtain ⟨_, yb, vb, rb, db⟩ := (show ObjOk X.prog X.w H s.heap b (.dK (ks.zip ws)) from I.hok b _ hb)
  refine PySem.W.rcP_dicts (knd := mixKind X.prog X.w) (r := PyData.eqvAll ds es) ya yb da db (by omega) (fun _ => hitsD I (A := X.A.in1) (by show X.A.units + 1 + 64 < cLine; omega) rb l1 l2 hd he sd se (valV_mem (by rw [zip_keys l2]; exact hn)) ra) _ _ ?_
  have e : va.length = vb.length := by rw [← ra.length, ← rb.length, List.length_zip, List.length_zip, ← l1, ← l2]
  rw [show (va.length == vb.length && PyData.eqvAll ds es) = PyData.eqvAll ds es from by rw [e]; simp]
  exact ⟨.bl _, H, I, rfl, q⟩
end L2
namespace MCH
open PySem PySem.Spec PyProof.Rows L2 PySem.W He
/-! ### properties by names -/
/-- a property of a class: the class, its name, its getter -/
structure PD where
  cls : Str
  prop : Str
  qual : Str
  st : Stmt
def ppa (K : Frag) (x : PD) : Addr := ma K (ga K x.cls) x.prop
def pga (K : Frag) (x : PD) : Addr := match recIn K (ppa K x) "property" with
  | some (.ref g :: _) => g
  | _ => 0
def pFn (K : Frag) (x : PD) : FnW := match K.lookup (pga K x) with
  | some ⟨_, _, .func fd, _⟩ => some (fd.name, fd.qualname, fd.params, fd.body, fd.scope, fd.globals, fd.closure, fd.builtins)
  | _ => none
def PD.val (x : PD) : FnW := some (x.prop, x.qual, defArgs x.st, .stmts (defBody x.st), defScope x.st, mainGlobals, [], builtinsNs)
def pB (K : Frag) (x : PD) : Bool := eqO (findIn K (.ref (ga K x.cls)) x.prop) (some (some (.ref (ppa K x)))) && (eqO (specialIn K (.ref (ppa K x)) "__get__") (some (some (.builtin "property.__get__"))) && (decide (takesIn K (.ref (ppa K x)) = some true) &&
  ((match recIn K (ppa K x) "property" with | some (.ref _ :: _) => true | _ => false) && (keepIn K (.ref (pga K x)) && (match K.lookup (pga K x) with
    | some ⟨_, _, .func fd, _⟩ => codeIn K fd.code x.qual && dflB K fd.defaults []
    | _ => false)))))
theorem pB_ok {K : Frag} {x : PD} (e : pFn K x = x.val) (c : pB K x = true) : PropOf K (ga K x.cls) x.prop (ppa K x) (pga K x) ∧ ∃ fd, FunD K x.prop x.qual (defArgs x.st) (defBody x.st) (defScope x.st) [] [] (pga K x) fd := by
  obtain ⟨c1, c⟩ := ba c
  obtain ⟨c2, c⟩ := ba c
  obtain ⟨c3, c⟩ := ba c
  obtain ⟨c4, c⟩ := ba c
  obtain ⟨kp, c⟩ := ba c
  refine ⟨⟨eqO_ok c1, eqO_ok c2, of_decide_eq_true c3, ?_⟩, ?_⟩
  · unfold pga
    split at c4
    · rename_i g r q
      rw [q]
      exact ⟨r, rfl⟩
    · cases c4
  · unfold pFn at e
    cases lk : K.lookup (pga K x) with
    | none => rw [lk] at c; cases c
    | some ob =>
      obtain ⟨b1, b2, b3, b4⟩ := ob
      rw [lk] at c e
      cases b3 with
      | func fd =>
        obtain ⟨n1, n2, n3, n4, n5, n6, n7, n8, n9, n10, n11, n12, n13, n14, n15⟩ := fd
        have y : (some (n1, n2, n3, n4, n5, n6, n7, n15) : FnW) = some (x.prop, x.qual, defArgs x.st, .stmts (defBody x.st), defScope x.st, mainGlobals, [], builtinsNs) := e
        simp only [Option.some.injEq, Prod.mk.injEq] at y
        obtain ⟨y1, y2, y3, y4, y5, y6, y7, y8⟩ := y
        subst y1 y2 y3 y4 y5 y6 y7 y8
        obtain ⟨k1, k2⟩ := ba (show (codeIn K n13 x.qual && dflB K n8 []) = true from c)
        exact ⟨_, ⟨b1, b2, n8, n9, n10, n11, n12, n13, n14, b4, rfl, lk, k1, dflB_ok k2, .inl rfl⟩, kp⟩
      | _ => cases c
/-! ### the hook with errors and properties -/
abbrev AlP : Type := AlM × Bool × List FnW
def obsP (n : Nat) (prog : Program) (fa : List Fa) (fn : List DefD) (xs : List XD) (ps : List PD) (ex : Frag → Bool) (g : Addr → Option Obj) : AlP :=
  (obsM n prog fa fn xs ex g, (ps.all fun x => pB (frG g (asM g n)) x), ps.map fun x => pFn (frG g (asM g n)) x)
def valP (fn : List DefD) (xs : List XD) (ps : List PD) : AlP := (valM fn xs, true, ps.map PD.val)
structure SaysP (prog : Program) (fa : List Fa) (fn : List DefD) (xs : List XD) (ps : List PD) (ex : Frag → Bool) (K : Frag) : Prop where
  m : SaysM prog fa fn xs ex K
  p : ∀ x ∈ ps, pB K x = true ∧ pFn K x = x.val
theorem saysP_of {n : Nat} {prog : Program} {fa : List Fa} {fn : List DefD} {xs : List XD} {ps : List PD} {ex : Frag → Bool} {g : Addr → Option Obj} (e : obsP n prog fa fn xs ps ex g = valP fn xs ps) : SaysP prog fa fn xs ps ex (frG g (asM g n)) := by
  have e1 := congrArg (fun z : AlP => z.1) e
  have e2 := congrArg (fun z : AlP => z.2.1) e
  have e3 := congrArg (fun z : AlP => z.2.2) e
  exact ⟨saysM_of e1, fun x hx => ⟨List.all_eq_true.mp e2 x hx, map_eq_at e3 x hx⟩⟩
def hookP (n : Nat) (prog : Program) (fa : List Fa) (fn : List DefD) (xs : List XD) (ps : List PD) (ex : Frag → Bool) : PySem.W.Hook where
  α := AlP
  obs := fun s => obsP n prog fa fn xs ps ex s.heap.get?
  val := fun _ => valP fn xs ps
  says := fun w h => ∃ K : PySem.W.Frag, K.In h ∧ SaysP prog fa fn xs ps ex K
  of := fun _ _ e => ⟨_, frG_in, saysP_of e⟩
  keeps := fun _ _ _ ⟨K, hK, c⟩ k => ⟨K, PySem.W.Frag.In.keeps hK k, c⟩
theorem obsP_eq {n : Nat} {prog : Program} {fa : List Fa} {fn : List DefD} {xs : List XD} {ps : List PD} {ex : Frag → Bool} {g : Addr → Option Obj} {s : Shared} (h : ∀ a, g a = s.heap.get? a) : obsP n prog fa fn xs ps ex g = (hookP n prog fa fn xs ps ex).obs s := by
  have e : g = s.heap.get? := funext h
  rw [e] <;> rfl
end MCH
/-! tuple * 0, tuple * 1, tuple * k of one-item tuples -/
namespace L2
open PySem PySem.Spec PyProof.Rows
theorem tuple_mul0 (l : Addr) (a : Value) (n : Nat) (dd : Option Addr) (sl : Array (Option Value)) (u : Tok) :
    Meets (Builtin.«tuple.__mul__» ⟨[.ref l, .int 0 u], []⟩) (fun _ R s => s.heap.get? l = some { cls := .type "tuple", dict := dd, data := .seq #[a] n, slots := sl } ∧
      R (.ok (.ret (Value.ref s.heap.objs.size))) { s with heap := s.heap.push { cls := Value.type "tuple", data := Data.seq #[] } }) :=
  .of_wp fun prog w A R s h => by
    obtain ⟨hp, g, d, tk, os⟩ := s
    obtain ⟨hl, h⟩ := h
    have f1 := AutoSeq1.idx_int
    wp_walk using wpAny_loadPart' hl
    exact ⟨_, rfl, h⟩
theorem tuple_mul1 (l : Addr) (a : Value) (n : Nat) (dd : Option Addr) (sl : Array (Option Value)) (u : Tok) :
    Meets (Builtin.«tuple.__mul__» ⟨[.ref l, .int 1 u], []⟩) (fun _ R s => s.heap.get? l = some { cls := .type "tuple", dict := dd, data := .seq #[a] n, slots := sl } ∧ R (.ok (.ret (Value.ref l))) s) :=
  .of_wp fun prog w A R s h => by
    obtain ⟨hp, g, d, tk, os⟩ := s
    obtain ⟨hl, h⟩ := h
    have f1 := AutoSeq1.idx_int
    wp_walk using wpAny_loadPart' hl
    exact ⟨_, rfl, h⟩
/-- (a,) * k -/
def rRep1 (K : PySem.W.Frag) : R2 := fun x y H Q => ∃ (l : Addr) (k : Nat) (a : V), x = .ref l ∧ y = .int k ∧ SqT K H l [a] ∧ k ≤ 1000 ∧ ∀ p H', Same H H' → SqT K H' p (List.replicate k a) → Q (.ref p) H'
theorem flat1 {α : Type} (a : α) : ∀ k : Nat, (List.replicate k [a]).flatten = List.replicate k a
  | 0 => rfl
  | k + 1 => by rw [List.replicate_succ, List.flatten_cons, flat1 a k, List.replicate_succ]; rfl
theorem op_rep1 {X : Cx} : OpR X (binaryOp .Mult) (rRep1 X.K) := by
  intro pins s σ H x y v u Q I rx ry h
  obtain ⟨l, k, a, rfl, rfl, hT, hk, q⟩ := h
  match k, hk, q with
  | 0, hk, q =>
    cases rx
    obtain ⟨t, rfl⟩ := ry
    obtain ⟨its, r, ⟨⟨cls, dd, data, sl⟩, ho, hc, n, hd⟩, hs⟩ := I.tuple hT
    simp only at hc hd
    subst hc hd
    obtain ⟨b, rfl, rb⟩ := vals1 r
    refine wpAny_binaryOp_repeat_ref (T := "tuple") (U := "int") (by decide) ⟨_, ho, rfl⟩ (fun s' => typeIs_int s' 0 t) noFill_tuple_mul F.fills_int_mul F.slot_int_rmul repeat_tuple F.slot_int_index.lookup
      (call_meets F.slot_int_rmul (typeIs_int s 0 t) F.entry_int_rmul (F.args_int_rmul_2 _ _) (int_rmul_tuple 0 t l #[b] n dd sl)
        ⟨ho, rfl, ⟨_, ho, rfl⟩, call_meets F.slot_tuple_mul ⟨_, ho, rfl⟩ F.entry_tuple_mul (F.args_tuple_mul_2 _ _) (tuple_mul0 l b n dd sl t) ⟨ho, ?_⟩⟩)
    refine ⟨.ref s.heap.objs.size, _, I.laid (t' := s.toks) (o := .tup []) (fun b ob q => Heap.get?_push_of_some _ q) (Nat.le_refl _) ?_, rfl, q _ _ (Same.new' (I.hok.fresh (Nat.le_refl _))) (SqT.of upd_same)⟩
    exact ⟨Nat.zero_le _, [], .nil, IsTup.new _ _⟩
  | 1, hk, q =>
    cases rx
    obtain ⟨t, rfl⟩ := ry
    obtain ⟨its, r, ⟨⟨cls, dd, data, sl⟩, ho, hc, n, hd⟩, hs⟩ := I.tuple hT
    simp only at hc hd
    subst hc hd
    obtain ⟨b, rfl, rb⟩ := vals1 r
    refine wpAny_binaryOp_repeat_ref (T := "tuple") (U := "int") (by decide) ⟨_, ho, rfl⟩ (fun s' => typeIs_int s' 1 t) noFill_tuple_mul F.fills_int_mul F.slot_int_rmul repeat_tuple F.slot_int_index.lookup
      (call_meets F.slot_int_rmul (typeIs_int s 1 t) F.entry_int_rmul (F.args_int_rmul_2 _ _) (int_rmul_tuple 1 t l #[b] n dd sl)
        ⟨ho, rfl, ⟨_, ho, rfl⟩, call_meets F.slot_tuple_mul ⟨_, ho, rfl⟩ F.entry_tuple_mul (F.args_tuple_mul_2 _ _) (tuple_mul1 l b n dd sl t) ⟨ho, ?_⟩⟩)
    exact ⟨.ref l, H, I, rfl, q l H (Same.refl H) hT⟩
  | k + 2, hk, q =>
    refine op_repT pins s σ H _ _ v u Q I rx ry ⟨l, _, [a], rfl, rfl, hT, by simp, by omega, by omega, by simp, fun p hp => ?_⟩
    refine q p _ (Same.new' hp) ?_
    have e : (List.replicate (((k + 2 : Nat) : Int)).toNat [a]).flatten = List.replicate (k + 2) a := by rw [Int.toNat_natCast, flat1]
    rw [← e]
    exact SqT.of upd_same
end L2
namespace L2
open PySem PySem.Spec PyProof.Rows StX
/-! ### d.update(e), two dicts -/
section
variable {X : Cx} {pins : List (Addr × Obj)} {σ : St} {H : Hp} {s : Shared} {A : Around} {E : Value → Shared → Prop} {a b : Addr} {kvs more : List (Key × V)}
theorem d_update {Q : Value → Shared → Prop} (I : Inv X pins σ H s) (e : H a = some (.dK kvs)) (e2 : H b = some (.dK more)) (ne : a ≠ b) (hz : kvs.length + more.length ≤ sizeLine)
    (h : ∀ s', Inv X pins σ (upd H a (.dK (mergeK kvs more))) s' → Q .none s') : wpAny (model X.prog X.w) A (call (.builtin "dict.update") [.ref a, .ref b]) Q E s := by
  obtain ⟨z, hd, vs, rel, dd⟩ := dk_of I.hok e
  obtain ⟨z2, hd2, ws, rel2, dd2⟩ := dk_of I.hok e2
  refine call_meetsIn PySem.F.slot_dict_update dd.typeIs PySem.F.entry_dict_update (PySem.F.args_dict_update_2 _ _) (meets_dict_update (mixKind X.prog X.w) a b ne hd2) ⟨vs, ws, dd, dd2, by rw [← rel.length, ← rel2.length]; exact hz, fun h' dd' _ hs => h _ ?_⟩
  have he : ∃ q, h'.get? a = some q := let ⟨q, _, _, hq, _⟩ := dd'; ⟨q, hq⟩
  exact d_write (t' := s.toks) I (by rw [e]; exact True.intro) hs he (dk_new (Nat.le_trans (length_mergeK _ _) hz) hd (rel2.merge rel) dd')
end
def tDUpd (td ty : TE) : TE := fun σ H Q => td σ H fun x H1 => ∃ a, x = .ref a ∧ IsD H1 a ∧ ty σ H1 fun y H2 => ∃ b kvs more, y = .ref b ∧ H2 a = some (.dK kvs) ∧ H2 b = some (.dK more) ∧ a ≠ b ∧ kvs.length + more.length ≤ sizeLine ∧ Q .non (upd H2 a (.dK (mergeK kvs more)))
theorem pe_dupd {X : Cx} {o e : Expr} {apos cpos : Pos} {td ty : TE} (ho : PE X o td) (he : PE X e ty) (m : M1 X o "update" apos e cpos) : PE X (.Call (.Attribute o "update" apos) [e] [] cpos) (tDUpd td ty) := by
  refine ⟨fun pins s σ H Q I h => ?_⟩
  refine wpAny_Call_method m.base m.few m.line PySem.F.plainAttrs_dict PySem.F.slot_dict_update PySem.F.type_dict_update (thn (ho.run pins s σ H _ I h) fun u s1 ⟨x, H1, I1, rx, a, ex, d, q1⟩ => ?_)
  subst ex
  obtain rfl : u = Value.ref a := rx
  obtain ⟨t1, t2, _⟩ := isD_at I1 d
  refine ⟨t1, t2, ?_⟩
  rw [m.trees]
  refine Calls.callWith_builtin rfl (Calls.evalArgs_plain (Calls.spliced_cons (thn (he.run pins s1 σ H1 _ I1 q1) fun iv s2 ⟨y, H2, I2, ry, b, kvs, more, ey, e1, e2, ne, hz, q2⟩ => Calls.spliced_nil ?_)))
  subst ey
  obtain rfl : iv = Value.ref b := ry
  exact d_update I2 e1 e2 ne hz fun s3 I3 => ⟨.non, _, I3, rfl, q2⟩
/-! ### def m(self, **fields), called with keywords -/
section
variable {prog : Program} {w : World} {A : Around} {E : Value → Shared → Prop} {d : Addr}
theorem nsSet_new {s : Shared} {es : List DictEntry} {n : Nat} {k : Str} {v : Value} {Q : Unit → Shared → Prop} (D : s.heap.get? d = some (PySem.W.dictOf es n)) (hs : ∀ e ∈ es, e.key.isStr k = false) (hr : ∀ e ∈ es, e.refKey = false)
    (h : ∀ h', Heap.SameBut d s.heap h' → h'.get? d = some (PySem.W.dictOf (es ++ [⟨PyData.keyHash w.params k, .str k s.toks, v⟩]) (n + 1)) → Q () { s with heap := h', toks := s.toks + 1 }) :
    wpAny (model prog w) A (nsSet d k v) Q E s := by
  have e1 : es.any (·.key.isStr k) = false := by
    cases q : es.any (·.key.isStr k) with
    | false => rfl
    | true => obtain ⟨e, he, z⟩ := List.any_eq_true.mp q; rw [hs e he] at z; cases z
  have e2 : es.any (·.refKey) = false := by
    cases q : es.any (·.refKey) with
    | false => rfl
    | true => obtain ⟨e, he, z⟩ := List.any_eq_true.mp q; rw [hr e he] at z; cases z
  have e : Obj.putName k (PyData.keyHash w.params k) (.str k s.toks) v (PySem.W.dictOf es n) = PySem.W.dictOf (es ++ [⟨PyData.keyHash w.params k, .str k s.toks, v⟩]) (n + 1) := by
    rw [PySem.W.putName_dict, PySem.W.putL_new hs]
    show PySem.W.dictOf _ (if es.any (·.key.isStr k) then n else n + 1) = _
    rw [e1, if_neg Bool.false_ne_true]
  have c : aRefKeyMayBeTheName k es.toArray = false := by
    rw [aRefKeyMayBeTheName_at, ← Array.any_toList, ← Array.any_toList]
    show (!es.any (·.key.isStr k) && es.any (·.refKey)) = false
    rw [e2, Bool.and_false]
  unfold nsSet
  refine wpAny_bind (wpAny_bind (wpAny_askSetting (wpAny_pure (wpAny_bind (wpAny_mkText (wpAny_bind (wpAny_loadPart D ?_)))))))
  dsimp only
  rw [c]
  refine wpAny_updatePart D (h _ (Heap.SameBut.update ..) ?_)
  rw [← e]
  exact Heap.get?_update_self _ D (by show (Obj.putName k (PyData.keyHash w.params k) (.str k s.toks) v (PySem.W.dictOf es n)).isFreed = false; rw [e]; rfl)
theorem SameBut.trans' {a : Addr} {h h1 h2 : Heap} (x : Heap.SameBut a h h1) (y : Heap.SameBut a h1 h2) : Heap.SameBut a h h2 := ⟨y.1.trans x.1, fun b hb => (y.2 b hb).trans (x.2 b hb)⟩
theorem fill_kw {Q : PUnit → Shared → Prop} : ∀ (ex : List (Str × Value)) (s : Shared) (es : List DictEntry) (n : Nat), s.heap.get? d = some (PySem.W.dictOf es n) →
    (∀ e ∈ es, ∀ x ∈ ex, e.key.isStr x.1 = false) → (∀ e ∈ es, e.refKey = false) → (ex.map (·.1)).Nodup →
    (∀ h' n', Heap.SameBut d s.heap h' → h'.get? d = some (PySem.W.dictOf (es ++ PySem.W.kwEs w.params s.toks ex) n') → Q ⟨⟩ { s with heap := h', toks := s.toks + ex.length }) →
    wpAny (model prog w) A (forIn ex PUnit.unit fun x _ => (nsSet d x.1 x.2 >>= fun _ => pure (ForInStep.yield PUnit.unit))) Q E s
  | [], s, es, n, D, _, _, _, h => by
    rw [List.forIn_nil]
    refine wpAny_pure (h s.heap n ⟨rfl, fun _ _ => rfl⟩ ?_)
    show _ = some (PySem.W.dictOf (es ++ []) n)
    rw [List.append_nil]
    exact D
  | x :: r, s, es, n, D, hs, hr, hn, h => by
    obtain ⟨hn1, hn2⟩ := List.nodup_cons.mp (show (x.1 :: r.map (·.1)).Nodup from hn)
    rw [List.forIn_cons]
    refine wpAny_bind (wpAny_bind (nsSet_new D (fun e he => hs e he x (.head _)) hr fun h' S' D' => wpAny_pure ?_))
    show wpAny (model prog w) A (forIn r PUnit.unit fun x _ => (nsSet d x.1 x.2 >>= fun _ => pure (ForInStep.yield PUnit.unit))) Q E { s with heap := h', toks := s.toks + 1 }
    refine fill_kw r { s with heap := h', toks := s.toks + 1 } _ _ D' (fun e he y hy => ?_) (fun e he => ?_) hn2 fun h'' n'' S'' D'' => ?_
    · rcases List.mem_append.mp he with he | he
      · exact hs e he y (.tail _ hy)
      · obtain rfl := List.mem_singleton.mp he
        show (x.1 == y.1) = false
        exact beq_eq_false_iff_ne.mpr fun q => hn1 (by rw [q]; exact List.mem_map_of_mem hy)
    · rcases List.mem_append.mp he with he | he
      · exact hr e he
      · obtain rfl := List.mem_singleton.mp he
        rfl
    · have t1 : s.toks + 1 + r.length = s.toks + (r.length + 1) := by omega
      show Q ⟨⟩ { s with heap := h'', toks := s.toks + 1 + r.length }
      rw [t1]
      refine h h'' n'' (SameBut.trans' S' S'') ?_
      rw [List.append_assoc] at D''
      exact D''
theorem kw_pairs : ∀ (ex : List (Str × Value)) (t : Tok), Pairs (mixKind prog w) (PySem.W.kwEs w.params t ex) (ex.map fun x => ((Sum.inr x.1 : Key), x.2))
  | [], _ => Pairs.nil
  | x :: r, t => Pairs.cons (kV_is (k := Sum.inr x.1) (u := .str x.1 t) ⟨t, rfl⟩) rfl (kw_pairs r (t + 1))
end
def inrs (ks : List Str) : List Key := ks.map Sum.inr
theorem kv_zip : ∀ {ks : List Str} {vs : List V} {us : List Value}, Vals vs us → KV ((inrs ks).zip vs) ((ks.zip us).map fun x => ((Sum.inr x.1 : Key), x.2))
  | [], _, _, _ => .nil
  | k :: ks, _, _, .nil => .nil
  | k :: ks, _, _, .cons h r => .cons ⟨rfl, h⟩ (kv_zip r)
theorem inrs_nodup : ∀ {ks : List Str}, ks.Nodup → (inrs ks).Nodup := fun {ks} h => by
  unfold inrs
  rw [List.Nodup, List.pairwise_map]
  exact h.imp fun ne q => ne (Sum.inr.inj q)
section
variable {P : Program} {w : World} {K : PySem.W.Frag} {mg : Str → Option Value} {base : Heap} {A : Around} {outer : List Env} {s : Shared} {H : Hp}
theorem env0_laid' {h' : Heap} {u : HO} {tk : Nat} (e0 : Env0 P w K mg base A outer s H) (kp : ∀ b x, s.heap.get? b = some x → h'.get? b = some x) (sz : s.heap.objs.size ≤ h'.objs.size) (new : ObjOk P w (upd H s.heap.objs.size u) h' s.heap.objs.size u) :
    Env0 P w K mg base A outer { s with heap := h', toks := tk } (upd H s.heap.objs.size u) := by
  refine ⟨e0.frames, e0.mod, fun b x e => ⟨kp b x (e0.bs b x e).1, ?_⟩, ?_, Heap.FunFrames.of_keeps (fun b x e _ => ⟨x, kp b x e, rfl⟩) e0.funs, fun b hb => ?_, e0.hok.laid kp (Nat.le_refl _) new, e0.bare⟩
  · rw [upd_ne (Nat.ne_of_lt (Heap.lt_size (e0.bs b x e).1))]
    exact (e0.bs b x e).2
  · exact Nat.le_trans e0.bsz sz
  · obtain ⟨_, x, hx, _⟩ := e0.funs.mem hb
    rw [upd_ne (Nat.ne_of_lt (Heap.lt_size hx))]
    exact e0.frf b hb
end
/-- what a def (self, **fields) promises of a call with the keywords ks -/
def FnKw (P : Program) (w : World) (K : PySem.W.Frag) (mg : Str → Option Value) (base : Heap) (CX : CXT) (k : Nat) (f : Addr) (ks : List Str) (sp : V → List V → Hp → VK → XK → Prop) : Prop :=
  ∀ (A : Around) (outer : List Env) (s : Shared) (H : Hp) (u : Value) (us : List Value) (v : V) (vs : List V) (Q : VK) (E : XK), Room k A → Env0 P w K mg base A outer s H → RelV v u → Vals vs us → vs.length = ks.length → sp v vs H Q E →
    codeAny (model P w) A (.call (.ref f) ⟨[u], ks.zip us⟩) (CR CX outer P w H s Q E) s
abbrev kwDict (d : Addr) : Sem Unit := pure ()
def bindKw (d : Str) (x : Str) (u : Value) (ex : List (Str × Value)) : Sem (List (Str × Value)) :=
  (alloc ({ cls := .type "dict", data := .dict #[] } : Obj) : Sem Addr) >>= fun a => (forIn ex PUnit.unit fun x _ => (nsSet a x.1 x.2 >>= fun _ => pure (ForInStep.yield PUnit.unit))) >>= fun _ => pure [(x, u), (d, Value.ref a)]
section
variable {CX : CXT} {P : Program} {w : World} {K : PySem.W.Frag} {mg : Str → Option Value} {base : Heap} {k : Nat} {f : Addr} {name qual : Str} {params : Arguments} {body : List Stmt} {scope : Scope} {N : List Str} {fd : FuncData}
theorem fn_kw {x d : Str} {ks : List Str} {sp : V → List V → Hp → VK → XK → Prop} (F : FunD K name qual params body scope [] [] f fd) (S : FnScope N [x, d] scope) (hCX : CXUp CX) (hks : ks.Nodup) (hkl : ks.length ≤ 1000)
    (hb : ∀ (dV kV doc pm : Value) (an : Option Addr) (cdv ct : Value) (u : Value) (us : List Value), DflV K dV [] → us.length = ks.length → bindArgs (PySem.W.fnOf name qual params body scope dV kV doc pm an cdv ct) ⟨[u], ks.zip us⟩ = bindKw d x u (ks.zip us))
    (hbody : ∀ (cdv : Value) (A : Around) (outer : List Env) (s : Shared) (H0 : Hp) (v : V) (vs : List V) (Q : VK) (E : XK) (p : Addr), Room k (A.deeper (envOfC qual scope s.heap.objs.size f cdv)) → H0 p = none → vs.length = ks.length → sp v vs H0 Q E →
      ∃ t, PSs (cxOf CX P w K mg base N qual scope f cdv A outer s (upd H0 p (.dK ((inrs ks).zip vs))) E) body t ∧ t { nx := fun _ H' => Q .non H', rt := Q } (start N [v, .ref p]) (upd H0 p (.dK ((inrs ks).zip vs)))) :
    FnKw P w K mg base CX (k + 1) f ks sp := by
  obtain ⟨oc, od, dV, kV, doc, pm, an, cdv, ct, osl, rfl, lk, hcd, hD, _⟩ := F.ex
  intro A outer s H u us v vs Q E hr e0 rv r hl hsp
  have hn : H s.heap.objs.size = Option.none := e0.hok.fresh (Nat.le_refl _)
  have hl1 : us.length = ks.length := by rw [← r.length]; exact hl
  refine run_bnd lk hcd S hr e0 (G := fun xs H2 => ∃ p, H p = Option.none ∧ xs = [v, V.ref p] ∧ H2 = upd H p (.dK ((inrs ks).zip vs))) (fun A' Ex Q' h => ?_) fun s2 H2 xs ⟨p, hp, ex, eH⟩ hr' => ?_
  · rw [hb dV kV doc pm an cdv ct u us hD hl1]
    unfold bindKw
    refine wpAny_bind (wpAny_alloc (wpAny_bind ?_))
    have em : (ks.zip us).map (·.1) = ks := by rw [List.map_fst_zip]; omega
    refine fill_kw (ks.zip us) _ [] 0 (Heap.get?_push_size _ rfl) (fun e he => by cases he) (fun e he => by cases he) (by rw [em]; exact hks) fun h' n' S' D' => wpAny_pure ?_
    have kp : ∀ b o, s.heap.get? b = some o → h'.get? b = some o := fun b o e => (S'.2 b (Nat.ne_of_lt (Heap.lt_size e))).trans (Heap.get?_push_of_some _ e)
    have sz : s.heap.objs.size ≤ h'.objs.size := by
      rw [S'.1]
      show s.heap.objs.size ≤ (s.heap.push _).objs.size
      rw [Heap.size_push]
      exact Nat.le_succ _
    have dd : h'.DictOf (mixKind P w) s.heap.objs.size ((ks.zip us).map fun x => ((Sum.inr x.1 : Key), x.2)) := by
      refine ⟨_, _, _, D', ⟨rfl, rfl, rfl⟩, rfl, fun e he => ?_, kw_pairs _ _, ?_⟩
      · obtain ⟨k, t, hk, hh⟩ := PySem.W.kwEs_key (ks.zip us) _ e (List.mem_toArray.mp he)
        exact ⟨Sum.inr k, kV_is (k := Sum.inr k) (by rw [hk]; exact ⟨t, rfl⟩), hh.trans rfl⟩
      · rw [List.map_map]
        have z : (ks.zip us).map ((fun x : Key × Value => x.1) ∘ fun x => ((Sum.inr x.1 : Key), x.2)) = inrs ks := by
          have z1 : ((ks.zip us).map (·.1)).map (Sum.inr : Str → Key) = inrs ks := by rw [em]; rfl
          rw [← z1, List.map_map]
          rfl
        rw [z]
        exact inrs_nodup hks
    have hbig : (s.heap.objs.size == sysModules) = false := by
      have := env0_big e0
      exact beq_eq_false_iff_ne.mpr (Nat.ne_of_gt this)
    have zl : ((inrs ks).zip vs).length ≤ sizeLine := by
      rw [List.length_zip]
      have z1 : (inrs ks).length = ks.length := by simp [inrs]
      have z2 : 1000 ≤ sizeLine := by decide
      omega
    have new : ObjOk P w (upd H s.heap.objs.size (.dK ((inrs ks).zip vs))) h' s.heap.objs.size (.dK ((inrs ks).zip vs)) := dk_new zl hbig (kv_zip r) dd
    have un : Un (frs outer) [] H (upd H s.heap.objs.size (.dK ((inrs ks).zip vs))) s.heap h' := Un.laid kp (Nat.le_refl _) hn
    have e1 : Env0 P w K mg base A outer { s with heap := h', toks := s.toks + (ks.zip us).length } (upd H s.heap.objs.size (.dK ((inrs ks).zip vs))) := env0_laid' e0 kp sz new
    exact h { s with heap := h', toks := s.toks + (ks.zip us).length } (upd H s.heap.objs.size (.dK ((inrs ks).zip vs))) [v, V.ref s.heap.objs.size] [u, Value.ref s.heap.objs.size] e1 un rfl (fun e s' => hCX outer s H _ _ E e s' un kp rfl) (.cons rv (.cons rfl .nil)) rfl ⟨_, hn, rfl, rfl⟩
  · subst ex eH
    exact hbody cdv A outer s2 H v vs Q E p hr' hp hl hsp
theorem FnKw.mono {j : Nat} {ks : List Str} {sp : V → List V → Hp → VK → XK → Prop} (F : FnKw P w K mg base CX j f ks sp) (h : j ≤ k) : FnKw P w K mg base CX k f ks sp := fun A o s H u us v vs Q E hr => F A o s H u us v vs Q E (hr.mono h)
end
/-- o.m(k = e, ..) -/
def tMethKw (C : Addr) (m : Str) (n : Nat) (sp : V → List V → Hp → VK → XK → Prop) (E : St → XK) (ta : TE) (t : TA) : TE := fun σ H Q => ta σ H fun x H1 => ∃ a dx fs, x = .ref a ∧ H1 a = some (.ins C dx fs) ∧ fs.lookup m = none ∧
  t σ H1 fun vs H2 => vs.length = n ∧ sp x vs H2 Q (E σ)
section
variable {X : Cx} {CX : CXT} {k : Nat} {f C : Addr} {m : Str} {ks : List Str} {sp : V → List V → Hp → VK → XK → Prop} {E : St → XK} {o : Expr} {ta : TE} {tk : TA} {apos pos : Pos} {kws : List Keyword}
theorem run_fnKw {pins : List (Addr × Obj)} {σ : St} {H : Hp} {s : Shared} {Q : VK} {u : Value} {us : List Value} {v : V} {vs : List V} (F : FnKw X.prog X.w X.K X.mg X.base CX k f ks sp) (hr : Room k X.A) (hx : PassesAt CX X σ (E σ)) (I : Inv X pins σ H s) (rv : RelV v u) (r : Vals vs us) (hl : vs.length = ks.length) (h : sp v vs H Q (E σ)) :
    wpAny (model X.prog X.w) X.A (call (.ref f) [u] (ks.zip us)) (EP X pins σ Q) X.xe s := by
  refine wpAny_call (codeAny_mono (F X.A X.stack s H u us v vs Q (E σ) hr I.env0 rv r hl h) fun r s' hq => ?_)
  match r, hq with
  | .error e, hq => exact hx pins _ _ e s' I hq
  | .ok (.ret u), hq => exact I.after hq
  | .ok .next, hq => exact hq.elim
  | .ok .brk, hq => exact hq.elim
  | .ok .cont, hq => exact hq.elim
theorem pe_methKw {pl : Sem Bool} (he : PE X o ta) (c : Cls X.K C) (hm : Meth X.K C m f) (F : FnKw X.prog X.w X.K X.mg X.base CX k f ks sp) (hr : Room k X.A) (hx : ∀ σ, PassesAt CX X σ (E σ)) (hkw : PK X kws tk)
    (hall : (backToKw pos (keywordEach kws X.env)).all (·.1.isSome) = true := by rfl) (hks : (backToKw pos (keywordEach kws X.env)).filterMap (·.1) = ks := by rfl)
    (hpl : ((backTo pos (starEach [] X.env)).any (·.1) || (backToKw pos (keywordEach kws X.env)).any (·.1.isNone)) = false := by rfl)
    (ht : eval (.Call (.Attribute o m apos) [] kws pos) X.env = (do
      let ov ← eval o X.env
      standAt apos.atName
      let (f, first) ← holding [ov] (getMethod ov m pl)
      callWith pos f first (backTo pos (starEach [] X.env)) (backToKw pos (keywordEach kws X.env))) := by rfl) :
    PE X (.Call (.Attribute o m apos) [] kws pos) (tMethKw C m ks.length sp E ta tk) := by
  refine ⟨fun pins s σ H Q I h => ?_⟩
  refine PySem.W.methodCall_KW (pl := pl) (thn (he.run pins s σ H _ I h) fun u s1 ⟨x, H1, I1, rx, a, dx, fs, ex, ea, l, q⟩ => ?_) ht
  subst ex
  obtain rfl : u = Value.ref a := rx
  refine getmeth_ok I1 ea c hm l ?_
  refine PySem.W.callWith_KW0 (first := [.ref a]) (h₀ := X.base) I.ok.mod.kin hm.kp hall ?_ hpl
  refine thn (hkw.run pos pins s1 σ H1 _ I1 q) fun ws s2 ⟨zs, H2, I2, rz, l2, q2⟩ => ⟨I2.kIn, ?_⟩
  rw [hks]
  exact run_fnKw (v := .ref a) F hr (hx σ) I2 rfl rz l2 q2
theorem pe_methKw0 {pl : Sem Bool} (he : PE X o ta) (c : Cls X.K C) (hm : Meth X.K C m f) (F : FnKw X.prog X.w X.K X.mg X.base CX k f [] sp) (hr : Room k X.A) (hx : ∀ σ, PassesAt CX X σ (E σ))
    (ht : eval (.Call (.Attribute o m apos) [] [] pos) X.env = (do
      let ov ← eval o X.env
      standAt apos.atName
      let (f, first) ← holding [ov] (getMethod ov m pl)
      callWith pos f first (backTo pos (starEach [] X.env)) (backToKw pos (keywordEach [] X.env))) := by rfl) :
    PE X (.Call (.Attribute o m apos) [] [] pos) (tMethKw C m 0 sp E ta tNil) := by
  refine ⟨fun pins s σ H Q I h => ?_⟩
  refine PySem.W.methodCall_KW (pl := pl) (thn (he.run pins s σ H _ I h) fun u s1 ⟨x, H1, I1, rx, a, dx, fs, ex, ea, l, q⟩ => ?_) ht
  subst ex
  obtain rfl : u = Value.ref a := rx
  refine getmeth_ok I1 ea c hm l ?_
  obtain ⟨_, q⟩ := q
  exact PySem.W.callWith_K0 (first := [.ref a]) I1.kIn hm.kp (run_fnKw (v := .ref a) (us := []) (vs := []) F hr (hx σ) I1 rfl .nil rfl q)
end
end L2
namespace L2
open PySem PySem.Spec PyProof.Rows
/-! ### promises where the def's own code object is told -/
section
variable {P : Program} {w : World} {K : PySem.W.Frag} {mg : Str → Option Value} {base : Heap} {CX : CXT} {k : Nat} {f : Addr} {fd : FuncData} {ps : List Str} {sp : Sp}
theorem FunD.okGC {x qual : Str} {params : Arguments} {body : List Stmt} {scope : Scope} {dvs : List V} {kws : List (Str × V)} {N : List Str} (F : FunD K x qual params body scope dvs kws f fd) (S : FnScope N ps scope) (len : ∀ vs H Q E, sp vs H Q E → vs.length = ps.length)
    (hbody : ∀ (A : Around) (outer : List Env) (s : Shared) (H : Hp) (vs : List V) (Q : VK) (E : XK), A.guards = some [] → Room k (A.deeper (envOfC qual scope s.heap.objs.size f fd.code)) → sp vs H Q E →
      ∃ t, PSs (cxOf CX P w K mg base N qual scope f fd.code A outer s H E) body t ∧ t { nx := fun _ H' => Q .non H', rt := Q } (start N vs) H) : FnG P w K mg base CX (k + 1) f fd ps sp := by
  obtain ⟨oc, od, dV, kV, doc, pm, an, cdv, ct, osl, rfl, lk, hcd, _, _⟩ := F.ex
  have hbody : ∀ (A : Around) (outer : List Env) (s : Shared) (H : Hp) (vs : List V) (Q : VK) (E : XK), A.guards = some [] → Room k (A.deeper (envOfC qual scope s.heap.objs.size f cdv)) → sp vs H Q E →
      ∃ t, PSs (cxOf CX P w K mg base N qual scope f cdv A outer s H E) body t ∧ t { nx := fun _ H' => Q .non H', rt := Q } (start N vs) H := hbody
  refine ⟨len, fun A outer s H args us vs Q E hgd hr e0 hbn rv hsp => ?_⟩
  have KX : K.In s.heap := e0.mod.kin.keeps fun b o e => (e0.bs b o e).1
  have kinds : ∀ y ∈ ps.zip us, scope.names.lookup y.1 = some .local ∨ (scope.names.lookup y.1 = some .cell ∧ ((cellsFrom (s.heap.objs.size + 1) scope.names []).lookup y.1).isSome = true) := by
    rintro ⟨n, v⟩ hy
    exact (S.par n (List.of_mem_zip hy).1).imp id fun q => ⟨q, PySem.W.cellsFrom_some _ _ _ (.inl q)⟩
  refine codeAny_call_function hr.depth (KX _ _ lk) rfl S.co S.gen rfl (PySem.W.codeRec_of KX hcd) (hbn _ _ _ _ (wpAny_newFunctionEnv_cells S.kind kinds fun env he s1 x => ?_))
  subst he
  refine ⟨(e0.mod.nolimit.keeps fun b o e => (e0.bs b o e).1).keeps x.toInCall.keep, codeAny_func ?_⟩
  obtain ⟨t, ht, hq⟩ := hbody A outer s H vs Q E hgd (hr.deeper _) hsp
  have J0 := inv_start (CX := CX) (E := E) S hr.hd e0 (len _ _ _ _ hsp) rv x
  refine wpAny_mono (ht.run [] s1 (start N vs) H _ J0 hq) (fun fl s' hs => ?_) fun e s' hs => hs
  cases fl with
  | ret u => exact let ⟨v, σ', H', J, rz, q⟩ := hs; ⟨v, H', J.os, J.bare, J.base, J.hok, rz, q⟩
  | next => exact let ⟨σ', H', J, q⟩ := hs; ⟨.non, H', J.os, J.bare, J.base, J.hok, rfl, q⟩
  | brk => exact let ⟨_, _, _, q⟩ := hs; q.elim
  | cont => exact let ⟨_, _, _, q⟩ := hs; q.elim
end
end L2
namespace L2
open PySem PySem.Spec PyProof.Rows LamX
/-! ### f(lambda: ..), where f reads the error that the lambda lets out: the wish is told at f's own slots -/
abbrev zCx (X : Cx) (Ng : List Str) (qg : Str) (sg : Scope) (g : Addr) (cdg : Value) (s : Shared) (H : Hp) : Cx := cxOf L2.CX0 X.prog X.w X.K X.mg X.base Ng qg sg g cdg X.A X.stack s H L2.E0
section
variable {X : Cx} {pins : List (Addr × Obj)} {σ : L2.St} {H HZ : Hp} {s s1 : Shared}
theorem pe_actW {Ng : List Str} {qg : Str} {sg : Scope} {g f c' : Addr} {cdg pm ctv : Value} {params : Arguments} {body : Expr} {scope : Scope} {k i : Nat} {a : Str} {pn : List (Addr × Obj)} {xe : Value → Shared → Prop} {W : WX} {tb : XK → TE} {p1 p2 : Pos}
    (I : Inv X pins σ H s) (L : LamS X.env.scope scope)
    (hf : s.heap.get? f = some (PySem.W.kla_obj "<lambda>" (X.env.qual ++ "<lambda>") params body scope (cloFrom X.env.cells scope.names []) pm c' ctv)) (hfn : H f = none) (hfr : f ∉ frs X.stack)
    (hbind : bindArgs (PySem.W.kla_fn "<lambda>" (X.env.qual ++ "<lambda>") params body scope (cloFrom X.env.cells scope.names []) pm (.ref c') ctv) ⟨[], []⟩ = pure [])
    (tk : Takes ((zCx X Ng qg sg g cdg s H).tr pn xe) W) (hr : Room (k + 1) (X.A.deeper (envOfC qg sg s.heap.objs.size g cdg)))
    (hbody : ∀ (A : Around) (outer : List Env) (s : Shared) (H : Hp) (E : XK), Room k (A.deeper (lamEnv X scope s.heap.objs.size f c')) → PE (lamCx X A outer s H E scope f c') body (tb E))
    (hN : Ng[i]? = some a) (hv : Vis sg a) (hd : (a == ("__debug__" : Str)) = false := by decide) (hcd : (a == ("__classdict__" : Str)) = false := by decide) :
    PE ((zCx X Ng qg sg g cdg s H).tr pn xe) (.Call (.Name a p1) [] [] p2) (fun σZ HZ Q => σZ[i]? = some (some (.ref f)) ∧ HZ c' = some (CodeO c' (X.env.qual ++ "<lambda>")) ∧ ∃ E : XK, (∀ cls d H', E cls d H' → W cls d σZ H') ∧ tb E σ HZ Q) := by
  refine ⟨fun pinsZ sZ σZ HZ Q IZ ⟨hs, hc, E, hE, ht⟩ => ?_⟩
  have hvar := (pe_var (pos := p1) (i := i) hN hv hd hcd).run pinsZ sZ σZ HZ (fun v H1 => v = .ref f ∧ H1 = HZ) IZ ⟨.ref f, hs, rfl, rfl⟩
  refine wpAny_Call_Name_kw (thn hvar fun u s1 ⟨v, H1, I1, r1, ev, eH⟩ => ?_)
  subst ev eH
  cases (show u = Value.ref f from r1)
  have nofr : f ∉ ([] : List Addr) := fun z => nomatch z
  have of1 := I1.base.keep f _ hf hfn hfr nofr
  refine PySem.W.callWith_F0 ⟨_, _, _, _, of1⟩ ?_
  have un : Un (frs X.stack) [] H H1 s.heap s1.heap := I1.base
  obtain ⟨⟨oc, vs, t, hoc, hdc, hvc⟩, _, _⟩ := I1.hok c' _ hc
  have go : codeAny (model X.prog X.w) (X.A.deeper (envOfC qg sg s.heap.objs.size g cdg)) (.call (.ref f) ⟨[], []⟩) (CR (L2.CX X.prog X.w) (envOfC qg sg s.heap.objs.size g cdg :: X.stack) X.prog X.w H1 s1 Q E) s1 := by
    refine PySem.W.kla_callFunE hr.depth of1 rfl L.co L.gen rfl ⟨c', oc, vs, t, rfl, hoc, hdc, hvc⟩ ?_
    rw [hbind]
    refine wpAny_pure (wpAny_newFunctionEnv (fun y hy => (L.own y hy).2) (fun y hy => absurd hy (by simp)) (fun h₁ hns hsb => ⟨I1.nolimit.fresh _ hsb, ?_⟩) L.kind)
    have kp : ∀ b o, s1.heap.get? b = some o → h₁.get? b = some o := fun b o e => hsb.extBut b o (Nat.ne_of_lt (Heap.lt_size e)) (Heap.get?_push_of_some _ e)
    have J := lam_start2 (A := X.A.deeper (envOfC qg sg s.heap.objs.size g cdg)) (E := E) (f := f) (c' := c') (tk := s1.toks + ([] : List (Str × Value)).length) I L I1.env0 hr.hd un hns kp
    refine PySem.W.kla_codeExpr (wpAny_mono ((hbody _ _ s1 H1 E (hr.deeper _)).run [] _ _ H1 Q J ht) (fun v s' ⟨w', H', J', rv, q⟩ => ?_) fun e s' hq => hq)
    exact ⟨w', H', J'.os, J'.bare, J'.base, J'.hok, rv, q⟩
  refine wpAny_call (codeAny_mono go fun r s' hq => ?_)
  match r, hq with
  | .error e, hq => exact tk e s' (XE.of_call I1 hE hq)
  | .ok (.ret u), hq => exact I1.after hq
  | .ok .next, hq => exact hq.elim
  | .ok .brk, hq => exact hq.elim
  | .ok .cont, hq => exact hq.elim
end
/-- the def that calls what it got -/
def GivesW (X : Cx) (Ng : List Str) (x : Str) (sg : Scope) (g : Addr) (cdg : Value) (bg : List Stmt) (a : Str) (q : Str) (TT : (XK → Hp → VK → Prop) → Hp → VK → Prop) : Prop :=
  ∀ (f c' : Addr) (s : Shared) (H : Hp) (Q : VK) (tl : XK → Hp → VK → Prop),
    (∀ (W : WX) (pn : List (Addr × Obj)) (xe : Value → Shared → Prop) (p1 p2 : Pos), Takes ((zCx X Ng x sg g cdg s H).tr pn xe) W →
      PE ((zCx X Ng x sg g cdg s H).tr pn xe) (.Call (.Name a p1) [] [] p2) (fun σZ HZ Q => σZ[0]? = some (some (.ref f)) ∧ HZ c' = some (CodeO c' q) ∧ ∃ E : XK, (∀ cls d H', E cls d H' → W cls d σZ H') ∧ tl E HZ Q)) →
    H c' = some (CodeO c' q) → TT tl H Q → ∃ t, PSs (zCx X Ng x sg g cdg s H).nox bg t ∧ t { nx := fun _ H' => Q .non H', rt := Q } (L2.start Ng [.ref f]) H
section
variable {X : Cx}
/-- x(lambda: body) -/
theorem pe_lamW {T : List (Addr × Str)} {TT : (XK → Hp → VK → Prop) → Hp → VK → Prop} {x a : Str} {g c P : Addr} {k : Nat} {pg : Arguments} {bg : List Stmt} {sg : Scope} {fd : FuncData} {Ng : List Str}
    {params : Arguments} {body : Expr} {scope : Scope} {t : XK → TE} {p lpos pos : Pos} (hg : Gl X x) (hm : X.mg x = some (.ref g)) (F : FunD X.K x x pg bg sg [] [] g fd) (hb : Binds X.K fd [a] []) (Sg : FnScope Ng [a] sg) (hNg : Ng[0]? = some a) (hva : Vis sg a)
    (hG : ∀ cdv, GivesW X Ng x sg g cdv bg a (X.env.qual ++ "<lambda>") TT)
    (TB : TabB X.base X.mg c P) (hcode : X.env.code = .ref c) (hmT : (P, X.env.qual ++ "<lambda>") ∈ T) (hu : ∀ p ∈ T, p.1 = P → p.2 = X.env.qual ++ "<lambda>") (hr : Room (k + 2) X.A) (L : LamS X.env.scope scope) (hdef : defaultsOf params X.env = ([], []))
    (hbind : ∀ (q : Str) (cl : List (Str × Addr)) (pm cv ctv : Value), bindArgs (PySem.W.kla_fn "<lambda>" q params body scope cl pm cv ctv) ⟨[], []⟩ = pure [])
    (hbody : ∀ (A : Around) (outer : List Env) (s : Shared) (H : Hp) (E : XK) (f c' : Addr), Room k (A.deeper (lamEnv X scope s.heap.objs.size f c')) → PE (lamCx X A outer s H E scope f c') body (t E))
    (hdb : (x == ("__debug__" : Str)) = false := by decide) (hd : (a == ("__debug__" : Str)) = false := by decide) (hcd : (a == ("__classdict__" : Str)) = false := by decide) :
    PE X (.Call (.Name x p) [.Lambda params body scope lpos] [] pos) (tLam T TT t) := by
  obtain ⟨⟨oc, od, dV, kV, doc, pm, an, cdv, ct, osl, rfl, lk, hcg, _, _⟩, hk⟩ := F
  refine ⟨fun pins s σ H Q I ⟨hT, h⟩ => ?_⟩
  refine wpAny_Call_Name_kw (ld_glob I hg hm ?_ hdb)
  refine PySem.W.callWith_K (h₀ := X.base) I.ok.mod.kin hk ?_ (by rfl) (by rfl)
  show wpAny _ _ (spliced ((false, eval (.Lambda params body scope lpos) X.env) :: backTo pos (starEach [] X.env))) _ _ s
  have made := fun {Q' : Value → Shared → Prop} hQ => lam_make2 (T := T) (params := params) (body := body) (scope := scope) (pos := lpos) (E := X.xe) (Q := Q') I TB hcode hmT hu hT hdef (L.has I.ok) hQ
  refine Calls.spliced_cons (made fun f c' pm' ctv H1 s' I1 eN T1 hf hfn hfr hco => Calls.spliced_nil ⟨I1.kIn, ?_⟩)
  have go : codeAny (model X.prog X.w) X.A (.call (.ref g) ⟨[.ref f], []⟩) (CR L2.CX0 X.stack X.prog X.w H1 s' Q L2.E0) s' := by
    refine run_ofS (N := Ng) (ps := [a]) (us := [.ref f]) (vs := [.ref f]) lk hcg Sg hr I1.env0 (hb s' [.ref f] I1.kIn rfl) (.cons rfl .nil) rfl fun hr' => ?_
    have act := fun (W : WX) pn xe p1 p2 tk => pe_actW (i := 0) (W := W) (pn := pn) (xe := xe) (p1 := p1) (p2 := p2) (tb := t) I1 L hf hfn hfr (hbind _ _ _ _ _) tk hr' (fun A outer s H E hr2 => hbody A outer s H E f c' hr2) hNg hva hd hcd
    obtain ⟨t', ht', hq'⟩ := hG cdv f c' s' H1 Q (fun E H' Q' => t E σ H' Q') act hco (h H1 eN T1)
    exact ⟨t', ht'.nox, hq'⟩
  refine wpAny_call (codeAny_mono go fun r s2 hq => ?_)
  match r, hq with
  | .error e, hq => exact hq.elim
  | .ok (.ret u), hq => exact I1.after hq
  | .ok .next, hq => exact hq.elim
  | .ok .brk, hq => exact hq.elim
  | .ok .cont, hq => exact hq.elim
end
end L2
namespace L2
open PySem PySem.Spec PyProof.Rows
/-! ### the law's end with tables of code objects, where no repr is under way -/
section
variable {P : Program} {w : World} {K : PySem.W.Frag} {mg mb : Str → Option Value} {CX : CXT} {k : Nat} {fa a : Addr} {fd : FuncData} {x : Str} {sp : Sp} {s₁ : Shared} {vs : List Value} {ns : List Int} {cs : List (Addr × Addr)}
abbrev tab0 : Obj := { cls := .none, data := .fields #[] }
theorem law_callTG (KX : K.In s₁.heap) (hns : s₁.heap.Ns mainGlobals mg) (hb : s₁.heap.Ns builtinsNs mb) (hbb : ∀ x : Str, x ≠ "__name__" → mb x = bootBuiltins x) (hlim : s₁.heap.NoLimit) (hg : s₁.gens = #[])
    (hT : ∀ p ∈ cs, s₁.heap.get? p.2 = some tab0) (nT : ∀ p ∈ cs, K.lookup p.2 = none) (hC : ∀ p ∈ cs, PySem.W.CodeHd s₁.heap p.1 p.2)
    (hbm : ∃ (bm : Addr) (ob : Obj), mg "__builtins__" = some (.ref bm) ∧ bm ≠ builtinsNs ∧ s₁.heap.get? bm = some ob ∧ ob.cls = .type "module" ∧ ob.dict = some builtinsNs ∧ ob.data = .plain)
    (ha : s₁.heap.get? a = some { cls := .type "list", data := .seq vs.toArray }) (hi : IntsAre vs ns) (hl : ns.length ≤ sizeLine) (hr : Room k callerA)
    (F : ∀ base : Heap, K.In base → base.Ns mainGlobals mg → (∀ p ∈ cs, LamX.TabB base mg p.1 p.2) → FnG P w K mg base CX k fa fd [x] sp) (hbind : ∀ (s : Shared) (u : Value), BindsTo s fd ⟨[u], []⟩ [(x, u)])
    (hsp : ∀ H : Hp, (∀ p ∈ cs, H p.2 = some (.tbl #[])) → SqL K H a (ns.map V.int) → sp [.ref a] H (fun v _ => v = .bl true) fun _ _ _ => False)
    (hCX : ∀ H e s', CX [] H s₁ (fun _ _ _ => False) e s' → False) : LawGoal P w fa a s₁ := by
  have tabAt : ∀ b, b ∈ cs.map Prod.snd → s₁.heap.get? b = some tab0 := by
    rintro b hb'
    obtain ⟨p, hp, rfl⟩ := List.mem_map.mp hb'
    exact hT p hp
  have main : ∀ H : Hp, (∀ b ∈ cs.map Prod.snd, H b = some (.tbl #[])) → (∀ b, H b ≠ none → b ∈ cs.map Prod.snd ∨ (b = a ∧ K.lookup a = none ∧ ∃ ob ys, H b = some (.frz ob (.lst ys)))) →
      SqL K H a (ns.map V.int) → HOk P w H s₁.heap → LawGoal P w fa a s₁ := by
    intro H hH hO hS hok
    have up : ∀ {b : Addr} {o : Obj}, s₁.heap.get? b = some o → H b = none → (hidT s₁.heap H).get? b = some o := fun e n => hidT_get e n
    -- neither a list nor an empty record: untracked
    have free : ∀ {b : Addr} {o : Obj}, s₁.heap.get? b = some o → (∀ us m, o.data ≠ .seq us m) → o.data ≠ .fields #[] → H b = none := by
      intro b o e n1 n2
      refine Classical.byContradiction fun nz => ?_
      rcases hO b nz with hb' | ⟨rfl, _⟩
      · rw [tabAt b hb'] at e
        cases e
        exact n2 rfl
      · rw [ha] at e
        cases e
        exact n1 _ _ rfl
    have kind : ∀ {d d' : Data}, d = d' → (∀ us m, d' ≠ .seq us m) → d' ≠ .fields #[] → (∀ us m, d ≠ .seq us m) ∧ d ≠ .fields #[] := fun q n1 n2 => by
      rw [q]
      exact ⟨n1, n2⟩
    have nsUp : ∀ {b : Addr} {m : Str → Option Value}, s₁.heap.Ns b m → (hidT s₁.heap H).Ns b m := fun ⟨o, es, ep, e, d, r⟩ =>
      ⟨o, es, ep, up e (let z := kind d (fun _ _ q => nomatch q) (fun q => nomatch q); free e z.1 z.2), d, r⟩
    have KB : K.In (hidT s₁.heap H) := fun b o e => up (KX b o e) (Classical.byContradiction fun nz => by
      rcases hO b nz with hb' | ⟨rfl, hk, _⟩
      · obtain ⟨p, hp, rfl⟩ := List.mem_map.mp hb'
        have z := nT p hp
        rw [z] at e
        cases e
      · rw [hk] at e
        cases e)
    have TB : ∀ p ∈ cs, LamX.TabB (hidT s₁.heap H) mg p.1 p.2 := fun p hp => by
      have at2 := hT p hp
      obtain ⟨og, eg, ng, qg, dg, _⟩ := id hns
      refine { code := ?_, bm := ?_, gP := fun z => ?_ }
      · obtain ⟨o, us, y1, y2, y3, y4, y5, y6, y7, e1, r1, r2, r3, rest⟩ := hC p hp
        refine ⟨o, us, y1, y2, y3, y4, y5, y6, y7, up e1 (free e1 (fun _ _ z => ?_) fun z => ?_), r1, r2, r3, rest⟩
        · rw [r2] at z; cases z
        · rw [r2] at z
          cases z
          simp at r3
      · obtain ⟨bm, ob, b1, b2, b3, b4, b5, b6⟩ := hbm
        refine ⟨bm, ob, b1, b2, fun z => ?_, fun z => ?_, up b3 (let z := kind b6 (fun _ _ q => nomatch q) (fun q => nomatch q); free b3 z.1 z.2), b4, b5, b6⟩
        · rw [z, qg] at b3
          cases b3
          rw [dg] at b6
          cases b6
        · rw [z, at2] at b3
          cases b3
          cases b6
      · rw [z, at2] at qg
        cases qg
        cases dg
    have none0 : ∀ b : Addr, b ∉ frs ([] : List Env) := fun b z => absurd (show b ∈ ([] : List Addr) from z) (by simp)
    have E0 : Env0 P w K mg (hidT s₁.heap H) callerA [] s₁ H :=
      ⟨rfl, ⟨KB, nsUp hns, ⟨mb, nsUp hb, hbb⟩, let ⟨mc, h1, h2⟩ := hlim; ⟨mc, nsUp h1, h2⟩⟩, fun b o e => of_hidT e, Nat.le_of_eq (hidT_size _ _), trivial, fun b z => absurd z (none0 b), hok, .of_eq hg⟩
    have hT' : ∀ p ∈ cs, H p.2 = some (.tbl #[]) := fun p hp => hH _ (List.mem_map.mpr ⟨p, hp, rfl⟩)
    refine codeAny_mono ((F _ KB (nsUp hns) TB).run callerA [] s₁ H ⟨[.ref a], []⟩ [.ref a] [.ref a] _ _ rfl hr E0 (hbind s₁ (.ref a)) (.cons rfl .nil) (hsp H hT' hS)) fun r s' h => ?_
    match r, h with
    | .error e, h => exact (hCX H e s' h).elim
    | .ok .next, h => exact h.elim
    | .ok .brk, h => exact h.elim
    | .ok .cont, h => exact h.elim
    | .ok (.ret u), ⟨v, H', os, bare, un, hok', rz, q⟩ =>
      cases (show v = .bl true from q)
      cases (show u = Value.bool true from rz)
      have kept : ∀ b o, b ∉ cs.map Prod.snd → s₁.heap.get? b = some o → s'.heap.get? b = some o := by
        intro b o nb e
        cases hb' : H b with
        | none => exact un.keep b o e hb' (none0 b) (by simp)
        | some y =>
          rcases hO b (by rw [hb']; simp) with z | ⟨_, _, ob, ys, z⟩
          · exact absurd z nb
          · have o1 := (hok b _ z).1
            have o2 := (hok' b _ (un.frzs b ob _ z)).1
            rw [e] at o1
            cases o1
            exact o2
      have wider : ∀ b ∈ cs.map Prod.snd, ∃ p ∈ cs, p.2 = b ∧ ∃ more : Array Value, s'.heap.get? b = some { cls := .none, data := .fields more } := by
        intro b hb'
        obtain ⟨p, hp, rfl⟩ := List.mem_map.mp hb'
        obtain ⟨more, z⟩ := un.tbls p.2 #[] (hT' p hp)
        exact ⟨p, hp, rfl, _, hok' p.2 _ z⟩
      refine ⟨rfl, ⟨fun b o e => ?_, fun b o e => ?_⟩, os, bare⟩
      · by_cases hb' : b ∈ cs.map Prod.snd
        · obtain ⟨p, hp, rfl, more, hm⟩ := wider b hb'
          have at2 := hT p hp
          rw [at2] at e
          cases e
          exact .inr (.inl ⟨((hC p hp).tab at2).isCodeTable, rfl, #[], more, rfl, by rw [Array.empty_append]; exact hm⟩)
        · exact .inl (kept b o hb' e)
      · by_cases hb' : b ∈ cs.map Prod.snd
        · obtain ⟨p, hp, rfl, more, hm⟩ := wider b hb'
          exact ⟨_, hm⟩
        · exact ⟨o, kept b o hb' e⟩
  have rv := vals_ints hi
  have hlen := hi.length
  have aN : a ∉ cs.map Prod.snd := fun z => by
    have q := tabAt a z
    rw [ha] at q
    have d := congrArg Obj.data (Option.some.inj q)
    exact nomatch (show Data.seq vs.toArray _ = Data.fields #[] from d)
  by_cases hk : K.lookup a = none
  · refine main (fun b => if b = a then some (.frz { cls := .type "list", data := .seq vs.toArray } (.lst (ns.map V.int))) else if b ∈ cs.map Prod.snd then some (.tbl #[]) else none) (fun b hb' => ?_) (fun b nz => ?_) (.inl (.inr ⟨_, if_pos rfl⟩)) (fun b u z => ?_)
    · have nb : b ≠ a := fun z => aN (z ▸ hb')
      exact (if_neg nb).trans (if_pos hb')
    · by_cases e : b = a
      · exact .inr ⟨e, hk, _, _, if_pos e⟩
      · by_cases hb' : b ∈ cs.map Prod.snd
        · exact .inl hb'
        · exact absurd ((if_neg e).trans (if_neg hb')) nz
    · by_cases e : b = a
      · subst e
        cases (if_pos rfl).symm.trans z
        exact ⟨ha, by rw [List.length_map]; exact hl, vs, _, rv, ha⟩
      · have z' := (if_neg e).symm.trans z
        by_cases hb' : b ∈ cs.map Prod.snd
        · cases (if_pos hb').symm.trans z'
          exact tabAt b hb'
        · cases (if_neg hb').symm.trans z'
  · cases ho : K.lookup a with
    | none => exact absurd ho hk
    | some o =>
      have e := KX a o ho
      rw [ha] at e
      cases e
      refine main (fun b => if b ∈ cs.map Prod.snd then some (.tbl #[]) else none) (fun b hb' => if_pos hb') (fun b nz => ?_) (.inr ⟨_, vs.toArray, _, ho, rfl, rfl, rfl, by rw [List.size_toArray, hlen]; exact hl, by simpa using rv⟩) (fun b u z => ?_)
      · by_cases hb' : b ∈ cs.map Prod.snd
        · exact .inl hb'
        · exact absurd (if_neg hb') nz
      · by_cases hb' : b ∈ cs.map Prod.snd
        · cases (if_pos hb').symm.trans z
          exact tabAt b hb'
        · cases (if_neg hb').symm.trans z
end
/-- a law with tables -/
theorem walk_ofTG {l : PySem.W.OpenLaw} {n k : Nat} {q : Program} {loose : List Str} {XP : (Str → Option Value) → Heap → Prop} {YP : World → Heap → Prop} {d : DefRec} {CX : World → CXT} {x : Str}
    (hn : l.most = some n) (hn2 : n ≤ sizeLine) (hdf : d.params.defaults = []) (hr : Room k callerA)
    (F : ∀ (w : World) (mg : Str → Option Value) (fa : Addr) (h : Heap), YP w h → h.Ns mainGlobals mg → mg d.name = some (.ref fa) →
      ∃ (K : PySem.W.Frag) (fd : FuncData) (cs : List (Addr × Addr)) (sp : Sp), K.In h ∧ (∀ (s : Shared) (u : Value), BindsTo s fd ⟨[u], []⟩ [(x, u)]) ∧ (∀ p ∈ cs, h.get? p.2 = some tab0 ∧ K.lookup p.2 = none ∧ PySem.W.CodeHd h p.1 p.2) ∧
        (∀ (H : Hp) (a : Addr) (ns : List Int), ns.length ≤ n → (∀ p ∈ cs, H p.2 = some (.tbl #[])) → SqL K H a (ns.map V.int) → sp [.ref a] H (fun v _ => v = .bl true) fun _ _ _ => False) ∧
        ∀ base : Heap, K.In base → base.Ns mainGlobals mg → (∀ p ∈ cs, LamX.TabB base mg p.1 p.2) → FnG l.prog w K mg base (CX w) k fa fd [x] sp)
    (hCX : ∀ (w : World) (H : Hp) (s : Shared) (e : Value) (s' : Shared), CX w [] H s (fun _ _ _ => False) e s' → False) :
    PySem.W.WalkO q loose XP YP l.row.toRowW d [] (fun f vs => PySem.call f vs) := by
  refine Att.attach_call hn hdf fun w s₀ s₁ mg mb fa o pm cd doc a vs ns G Y ho hd hcd hmg hobj hints hlen hg => ?_
  obtain ⟨K, fd, cs, sp, KX, h1, ht, h2, h3⟩ := F w mg fa _ Y G.T.g hmg
  exact law_callTG KX G.T.g G.T.b G.T.builtins G.T.nolimit hg (fun p hp => (ht p hp).1) (fun p hp => (ht p hp).2.1) (fun p hp => (ht p hp).2.2) G.T.bmain hobj hints (Nat.le_trans hlen hn2) hr h3 h1 (fun H hH hS => h2 H a ns hlen hH hS) fun H e s' => hCX w H s₁ e s'
end L2
namespace MCH
open PySem PySem.Spec PyProof.Rows L2 PySem.W He
/-! ### the hook with errors, properties and empty tables -/
abbrev AlO : Type := AlP × Bool
def obK (prog : Program) (fa : List Fa) (fn : List DefD) (xs : List XD) (ps : List PD) (ex : Frag → Bool) (K : Frag) : AlP :=
  ((obsD fa fn K, (xs.all fun x => xB prog K x) && ex K, xs.map fun x => fnV K x), (ps.all fun x => pB K x), ps.map fun x => pFn K x)
def obsO (n : Nat) (prog : Program) (fa : List Fa) (fn : List DefD) (xs : List XD) (ps : List PD) (tf : List Defn) (ex : Frag → Bool) (g : Addr → Option Obj) : AlO :=
  (obK prog fa fn xs ps ex (frT g (asM g n)), tabsB g tf (frT g (asM g n)))
def valO (fn : List DefD) (xs : List XD) (ps : List PD) : AlO := (valP fn xs ps, true)
structure SaysO (prog : Program) (fa : List Fa) (fn : List DefD) (xs : List XD) (ps : List PD) (tf : List Defn) (ex : Frag → Bool) (h : Heap) (K : Frag) : Prop where
  p : SaysP prog fa fn xs ps ex K
  t : ∀ d ∈ tf, codeHdIn K (cT K d).1 (cT K d).2 = true ∧ K.lookup (cT K d).2 = none ∧ h.get? (cT K d).2 = some tab0
theorem saysO_of {n : Nat} {prog : Program} {fa : List Fa} {fn : List DefD} {xs : List XD} {ps : List PD} {tf : List Defn} {ex : Frag → Bool} {h : Heap} (e : obsO n prog fa fn xs ps tf ex h.get? = valO fn xs ps) : SaysO prog fa fn xs ps tf ex h (frT h.get? (asM h.get? n)) := by
  generalize hK : frT h.get? (asM h.get? n) = K
  have e1 : obK prog fa fn xs ps ex K = valP fn xs ps := by rw [← hK]; exact congrArg (fun z : AlO => z.1) e
  have e2 : tabsB h.get? tf K = true := by rw [← hK]; exact congrArg (fun z : AlO => z.2) e
  have m1 := congrArg (fun z : AlP => z.1.1) e1
  have m2 := congrArg (fun z : AlP => z.1.2.1) e1
  have m3 := congrArg (fun z : AlP => z.1.2.2) e1
  have p1 := congrArg (fun z : AlP => z.2.1) e1
  have p2 := congrArg (fun z : AlP => z.2.2) e1
  obtain ⟨b1, b2⟩ := ba m2
  refine ⟨⟨⟨m1, fun x hx => ⟨List.all_eq_true.mp b1 x hx, map_eq_at m3 x hx⟩, b2⟩, fun x hx => ⟨List.all_eq_true.mp p1 x hx, map_eq_at p2 x hx⟩⟩, fun d hd => ?_⟩
  obtain ⟨c1, c2⟩ := ba (List.all_eq_true.mp e2 d hd)
  cases q : h.get? (cT K d).2 with
  | none => rw [q] at c2; cases c2
  | some o =>
    rw [q] at c2
    refine ⟨c1, ?_, by rw [emptyTab_eq c2]⟩
    have z := frT_none (as := asM h.get? n) q c2
    rw [hK] at z
    exact z
def hookO (n : Nat) (prog : Program) (fa : List Fa) (fn : List DefD) (xs : List XD) (ps : List PD) (tf : List Defn) (ex : Frag → Bool) : PySem.W.Hook where
  α := AlO
  obs := fun s => obsO n prog fa fn xs ps tf ex s.heap.get?
  val := fun _ => valO fn xs ps
  says := fun w h => ∃ K : PySem.W.Frag, K.In h ∧ SaysO prog fa fn xs ps tf ex h K
  of := fun _ _ e => ⟨_, frT_in, saysO_of e⟩
  keeps := fun _ _ _ ⟨K, hK, c⟩ k => ⟨K, PySem.W.Frag.In.keeps hK k, ⟨c.p, fun d hd => let ⟨z1, z2, z3⟩ := c.t d hd; ⟨z1, z2, k _ _ z3⟩⟩⟩
theorem obsO_eq {n : Nat} {prog : Program} {fa : List Fa} {fn : List DefD} {xs : List XD} {ps : List PD} {tf : List Defn} {ex : Frag → Bool} {g : Addr → Option Obj} {s : Shared} (h : ∀ a, g a = s.heap.get? a) : obsO n prog fa fn xs ps tf ex g = (hookO n prog fa fn xs ps tf ex).obs s := by
  have e : g = s.heap.get? := funext h
  rw [e] <;> rfl
end MCH
namespace K04
open PySem PySem.Spec PyProof.Rows L2
def top (i : Nat) : Stmt := PySem.Challenge.pw_mostcalls_k04_policies_changed.main.body.getD i (.Pass ⟨0, 0, 0, 0⟩)
abbrev s_is_integer : Stmt := top 7
abbrev s_is_between : Stmt := top 8
abbrev s_is_name : Stmt := top 9
abbrev s_is_ending : Stmt := top 19
abbrev s_are_pauses : Stmt := top 20
abbrev s_wrong_field : Stmt := top 21
abbrev s_Policy_init : Stmt := inClass (top 22) 0
abbrev FnP (K : PySem.W.Frag) (x : Str) (st : Stmt) (f : Addr) (fd : FuncData) : Prop := FunD K x x (defArgs st) (defBody st) (defScope st) [] [] f fd
/-- the built-in names that the module leaves alone -/
structure Blt (mg : Str → Option Value) : Prop where
  isi : mg "isinstance" = none
  int : mg "int" = none
  bool : mg "bool" = none
  str : mg "str" = none
  tuple : mg "tuple" = none
  len : mg "len" = none
  all : mg "all" = none
  mxl : ∃ t, mg "MAX_LETTERS" = some (.int 8 t)
  mxp : ∃ t, mg "MAX_PAUSE" = some (.int 8 t)
  mxt : ∃ t, mg "MAX_TRIES" = some (.int 3 t)
  mxm : ∃ t, mg "MAX_LIMIT" = some (.int 20 t)
  mxd : ∃ t, mg "MAX_DELAY" = some (.int 20 t)
  go : ∃ t, mg "GO" = some (.str "go" t)
  stop : ∃ t, mg "STOP" = some (.str "stop" t)
  dead : ∃ t, mg "DEADLINE" = some (.str "deadline" t)
  let_ : ∃ t, mg "LETTERS" = some (.str "abcdefghijklmnopqrstuvwxyz" t)
/-! ### the mirrors -/
def isInt (d : PyData) : Bool := isA d "int" && !isA d "bool"
def isBetw (d : PyData) (lo hi : Int) : Bool := match d with
  | .int i => decide (lo ≤ i) && decide (i ≤ hi)
  | _ => false
theorem isInt_eq : ∀ d : PyData, isInt d = (match d with | .int _ => true | _ => false) := by
  intro d
  unfold isInt isA
  cases d <;> (unfold tyD; dsimp only; decide +kernel)
def isLow (c : Nat) : Bool := decide (c ∈ ("abcdefghijklmnopqrstuvwxyz" : Str).cps.toList)
def isName (d : PyData) : Bool := match d with
  | .str x => decide (1 ≤ x.length) && (decide (x.length ≤ 8) && x.cps.toList.all isLow)
  | _ => false
def isEnding (d : PyData) : Bool := match d with
  | .tuple [.str w] => w == "go" || w == "deadline"
  | .tuple [.str w, e] => w == "stop" && isBetw e 0 20
  | _ => false
def arePauses (d : PyData) (n : Int) : Bool := match d with
  | .tuple ds => decide ((ds.length : Int) = n - 1) && ds.all fun e => isBetw e 0 8
  | _ => false
def notN : PyData → Bool | .none => false | _ => true
def intOf : PyData → Int | .int i => i | _ => 0
def ltTwo : PyData → Bool | .int i => decide (i < 2) | _ => true
def wrongField (dl dt dp de dy dn : PyData) : Option Str :=
  cond (isBetw dl 1 20) (cond (isBetw dt 1 3) (cond (notN dp && (notN de || !arePauses dp (intOf dt))) (some "pauses")
    (cond (notN de && (ltTwo dt || !isBetw de 1 20)) (some "early") (cond (isBoolD dy) (cond (isEnding dn) none (some "ending")) (some "lossy")))) (some "tries")) (some "limit")
def oStr : Option Str → V | none => .non | some x => .str x
/-! ### the promises -/
def spPauses (K : PySem.W.Frag) : Sp := fun vs H Q _ => ∃ (v : V) (d : PyData) (n : Int), vs = [v, .int n] ∧ n ≤ 100 ∧ Dq K H v d ∧ ∀ H', Same H H' → Q (.bl (arePauses d n)) H'
def spWrong (K : PySem.W.Frag) : Sp := fun vs H Q _ => ∃ (v0 v1 v2 v3 v4 v5 : V) (d0 d1 d2 d3 d4 d5 : PyData), vs = [v0, v1, v2, v3, v4, v5] ∧ Dq K H v0 d0 ∧ Dq K H v1 d1 ∧ Dq K H v2 d2 ∧ Dq K H v3 d3 ∧ Dq K H v4 d4 ∧ Dq K H v5 d5 ∧
  ∀ H', Same H H' → Q (oStr (wrongField d0 d1 d2 d3 d4 d5)) H'
def spEnding (K : PySem.W.Frag) : Sp := fun vs H Q _ => ∃ (v : V) (d : PyData), vs = [v] ∧ Dq K H v d ∧ ∀ H', Same H H' → Q (.bl (isEnding d)) H'
def spInt (K : PySem.W.Frag) : Sp := fun vs H Q _ => ∃ (v : V) (d : PyData), vs = [v] ∧ Dq K H v d ∧ Q (.bl (isInt d)) H
def spBetw (K : PySem.W.Frag) : Sp := fun vs H Q _ => ∃ (v : V) (d : PyData) (lo hi : Int), vs = [v, .int lo, .int hi] ∧ Dq K H v d ∧ Q (.bl (isBetw d lo hi)) H
def spName (K : PySem.W.Frag) : Sp := fun vs H Q _ => ∃ (v : V) (d : PyData), vs = [v] ∧ Dq K H v d ∧ ∀ H', Same H H' → Q (.bl (isName d)) H'
section
variable {P : Program} {w : World} {K : PySem.W.Frag} {mg : Str → Option Value} {base : Heap} {f g : Addr} {fd gd : FuncData} {CX : CXT}
theorem sc_is_integer : FnScope ["value"] ["value"] (defScope s_is_integer) := ⟨rfl, rfl, rfl, by decide +kernel, rfl, by decide +kernel, by decide +kernel⟩
theorem ok_is_integer (F : FnP K "is_integer" s_is_integer f fd) (B : Blt mg) : FnOk P w K mg base CX0 1 f fd ["value"] (spInt K) := by
  refine F.ok sc_is_integer (fun vs H Q E h => ?_) (fun cdv A outer s H vs Q E hr h => ?_)
  · obtain ⟨v, d, rfl, _⟩ := h
    rfl
  · obtain ⟨v, d, rfl, hd, q⟩ := h
    refine ⟨_, pss_one (ps_ret (pe_and (pe_callB call_isD (by rfl) B.isi boot_isinstance (pa_cons (pv 0) (pa_cons (pe_bltn (v := .ty "int") (by rfl) B.int (by decide +kernel) rfl) pa_nil)))
      (pe_one (pe_not (pe_callB call_isD (by rfl) B.isi boot_isinstance (pa_cons (pv 0) (pa_cons (pe_bltn (v := .ty "bool") (by rfl) B.bool (by decide +kernel) rfl) pa_nil))))))), ?_⟩
    refine ⟨_, rfl, v, d, "int", rfl, hd, tok_int, _, rfl, ?_⟩
    unfold isInt at q
    cases e : isA d "int" with
    | true =>
      rw [e] at q
      exact iteT ⟨_, rfl, v, d, "bool", rfl, hd, tok_bool, _, rfl, q⟩
    | false =>
      rw [e] at q
      exact iteF q
theorem sc_is_between : FnScope ["value", "low", "high"] ["value", "low", "high"] (defScope s_is_between) := ⟨rfl, rfl, rfl, by decide +kernel, rfl, by decide +kernel, by decide +kernel⟩
theorem ok_is_between (F : FnP K "is_between" s_is_between f fd) (G : FnP K "is_integer" s_is_integer g gd) (gg : mg "is_integer" = some (.ref g)) (B : Blt mg) : FnOk P w K mg base CX0 2 f fd ["value", "low", "high"] (spBetw K) := by
  have b : Binds K gd ["value"] [] := G.bindsN fun _ _ _ _ _ _ us hl => match us, hl with | [_], _ => rfl
  refine F.ok sc_is_between (fun vs H Q E h => ?_) (fun cdv A outer s H vs Q E hr h => ?_)
  · obtain ⟨v, d, lo, hi, rfl, _⟩ := h
    rfl
  · obtain ⟨v, d, lo, hi, rfl, hd, q⟩ := h
    refine ⟨_, pss_one (ps_ret (pe_and (pe_call (ok_is_integer G B) hr rfl gg G.kp b .nil pass0 (pa_cons (pv 0) pa_nil))
      (pe_one (pe_chain op_le op_le (pv 1) (pv 0) (pv 2))))), ?_⟩
    refine ⟨_, rfl, v, d, rfl, hd, _, rfl, ?_⟩
    rw [isInt_eq]
    cases hd with
    | int i =>
      refine iteT ⟨_, rfl, _, rfl, _, _, rfl, rfl, _, rfl, ?_⟩
      have q' : Q (.bl (decide (lo ≤ i) && decide (i ≤ hi))) H := q
      cases e : decide (lo ≤ i) with
      | true =>
        rw [e] at q'
        exact iteT ⟨_, rfl, _, _, rfl, rfl, q'⟩
      | false =>
        rw [e] at q'
        exact iteF q'
    | _ => exact iteF q
theorem sc_is_name : FnScope ["value", "sign"] ["value"] (defScope s_is_name) := ⟨rfl, rfl, rfl, by decide +kernel, rfl, by decide +kernel, by decide +kernel⟩
theorem ok_is_name (F : FnP K "is_name" s_is_name f fd) (B : Blt mg) : FnOk P w K mg base CX0 1 f fd ["value"] (spName K) := by
  obtain ⟨tl, gl⟩ := B.let_
  obtain ⟨tm, gm⟩ := B.mxl
  refine F.ok sc_is_name (fun vs H Q E h => ?_) (fun cdv A outer s H vs Q E hr h => ?_)
  · obtain ⟨v, d, rfl, _⟩ := h
    rfl
  · obtain ⟨v, d, rfl, hd, q⟩ := h
    refine ⟨_, pss_cons (ps_if (PW.pt (pw_or (pt_not (pt_val (pe_callB call_isD (by rfl) B.isi boot_isinstance (pa_cons (pv 0) (pa_cons (pe_bltn (v := .ty "str") (by rfl) B.str (by decide +kernel) rfl) pa_nil)))))
        (pw_or1 (pt_not (pt_chain op_le op_le pe_int (pe_callB call_len_str (by rfl) B.len PySem.boot_len (pa_cons (pv 0) pa_nil)) (pe_glob (v := .int 8) rfl gm ⟨_, rfl⟩))))))
        (pss_one (ps_ret pe_bl)) pss_nil)
      (pss_one (ps_ret (pe_callB (cr_all rfl) (by rfl) B.all boot_all (pa_cons (pe_lc (own := [("sign", 1)]) (g := gName 1) (tt := tYes) rfl sc_is_name.nd (pi_str (pv 0)) (blkOk_by (N := ["value", "sign"]) (sc := defScope s_is_name) (by decide +kernel))
        (fun _ _ _ _ _ => pg_name (i := 1) sc_is_name.nd rfl (Or.inl rfl)) (fun _ _ _ _ _ => pts_nil)
        (fun _ _ _ _ _ => pe_cmpR op_inS (pv 1) (pe_glob (v := .str "abcdefghijklmnopqrstuvwxyz") rfl gl ⟨_, rfl⟩) rfl)) pa_nil)))), ?_⟩
    refine ⟨_, rfl, v, d, "str", rfl, hd, tok_str, _, rfl, ?_⟩
    cases hd with
    | str x hx =>
      refine iteF ⟨_, rfl, x, rfl, hx, _, _, rfl, rfl, _, rfl, ?_⟩
      have q' : ∀ H', Same H H' → Q (.bl (decide (1 ≤ x.length) && (decide (x.length ≤ 8) && x.cps.toList.all isLow))) H' := q
      by_cases h1 : 1 ≤ x.length
      · rw [decide_eq_true h1] at q'
        refine iteY (by omega) ⟨_, _, rfl, rfl, _, rfl, ?_⟩
        by_cases h2 : x.length ≤ 8
        · rw [decide_eq_true h2] at q'
          refine iteNY (by omega) ?_
          refine ⟨_, rfl, x, rfl, fun D hD => ?_⟩
          refine lc_map walk_str (x.cps.toList.map fun c => V.bl (isLow c)) (by simp) hx (fun _ => trivial) (fun _ => rfl) (fun i y acc Q' hi hy k => ?_) ?_
          · obtain ⟨c, hc, rfl⟩ := hy
            refine ⟨_, rfl, c, _, rfl, rfl, k _ ?_⟩
            rw [List.getElem?_map]
            have : x.cps.toList[i]? = some c := by simpa using hc
            rw [this]
            rfl
          · refine ⟨D, x.cps.toList.map isLow, rfl, SqL.of (by rw [upd_same, List.map_map]; rfl), ?_⟩
            have z := q' (upd H D (.lst (x.cps.toList.map fun c => V.bl (isLow c)))) fun b o e => by rw [upd_ne (ne_of_none e hD)]; exact e
            have e : (x.cps.toList.map isLow).all id = x.cps.toList.all isLow := by rw [List.all_map]; rfl
            rw [e]
            exact z
        · rw [decide_eq_false h2] at q'
          exact iteNN (by omega) (q' H (Same.refl H))
      · rw [decide_eq_false h1] at q'
        exact iteN (by omega) ⟨_, rfl, q' H (Same.refl H)⟩
    | _ => exact iteT (q H (Same.refl H))
theorem Same.new {H : Hp} {p : Addr} {o : HO} (h : H p = none) : Same H (upd H p o) := fun b u e => by rw [upd_ne (ne_of_none e h)]; exact e
theorem sc_is_ending : FnScope ["value", "word", "delay"] ["value"] (defScope s_is_ending) := ⟨rfl, rfl, rfl, by decide +kernel, rfl, by decide +kernel, by decide +kernel⟩
theorem ok_is_ending (F : FnP K "is_ending" s_is_ending f fd) {g' : Addr} {gd' : FuncData} (G' : FnP K "is_integer" s_is_integer g' gd') (gg' : mg "is_integer" = some (.ref g')) (G : FnP K "is_between" s_is_between g gd) (gg : mg "is_between" = some (.ref g)) (B : Blt mg) : FnOk P w K mg base CX0 3 f fd ["value"] (spEnding K) := by
  obtain ⟨t1, g1⟩ := B.go
  obtain ⟨t2, g2⟩ := B.stop
  obtain ⟨t3, g3⟩ := B.dead
  obtain ⟨t4, g4⟩ := B.mxd
  have b : Binds K gd ["value", "low", "high"] [] := G.bindsN fun _ _ _ _ _ _ us hl => match us, hl with | [_, _, _], _ => rfl
  refine F.ok sc_is_ending (fun vs H Q E h => ?_) (fun cdv A outer s H vs Q E hr h => ?_)
  · obtain ⟨v, d, rfl, _⟩ := h
    rfl
  · obtain ⟨v, d, rfl, hd, q⟩ := h
    refine ⟨_, pss_one (ps_match (pv 0) (pm_seq1 (i := 1) rfl sc_is_ending.nd rfl rfl
        (pss_one (ps_ret (pe_and (pe_callB call_isD (by rfl) B.isi boot_isinstance (pa_cons (pv 0) (pa_cons (pe_bltn (v := .ty "tuple") (by rfl) B.tuple (by decide +kernel) rfl) pa_nil)))
          (pe_and (pe_callB call_isD (by rfl) B.isi boot_isinstance (pa_cons (pv 1) (pa_cons (pe_bltn (v := .ty "str") (by rfl) B.str (by decide +kernel) rfl) pa_nil)))
            (pe_one (pe_cmpR op_in_seq (pv 1) (pe_tup (pa_cons (pe_glob (v := .str "go") rfl g1 ⟨_, rfl⟩) (pa_cons (pe_glob (v := .str "deadline") rfl g3 ⟨_, rfl⟩) pa_nil))) (by rfl)))))))
      (pm_seq2 (i := 1) (j := 2) rfl sc_is_ending.nd rfl rfl rfl rfl
        (pss_cons (ps_if (PW.pt (pw_or (pt_not (pt_val (pe_callB call_isD (by rfl) B.isi boot_isinstance (pa_cons (pv 0) (pa_cons (pe_bltn (v := .ty "tuple") (by rfl) B.tuple (by decide +kernel) rfl) pa_nil)))))
            (pw_or1 (pt_not (pt_val (pe_callB call_isD (by rfl) B.isi boot_isinstance (pa_cons (pv 1) (pa_cons (pe_bltn (v := .ty "str") (by rfl) B.str (by decide +kernel) rfl) pa_nil))))))))
            (pss_one (ps_ret pe_bl)) pss_nil)
          (pss_one (ps_ret (pe_and (pe_cmpR op_eq (pv 1) (pe_glob (v := .str "stop") rfl g2 ⟨_, rfl⟩) (nomark _))
            (pe_one (pe_call (ok_is_between G G' gg' B) hr rfl gg G.kp b .nil pass0 (pa_cons (pv 2) (pa_cons pe_int (pa_cons (pe_glob (v := .int 20) rfl g4 ⟨_, rfl⟩) pa_nil)))))))))
      (pm_any (pss_one (ps_ret pe_bl)))))), ?_⟩
    refine ⟨_, rfl, d, hd, ?_, ?_⟩
    · intro a xs ds ev hs ha hl y ey
      subst ey
      cases ha with
      | @cons _ _ d1 _ hy hn =>
      cases hn
      refine ⟨_, rfl, v, d, "tuple", rfl, hd, tok_tuple, _, rfl, ?_⟩
      rw [isA_tuple]
      rcases hs with ⟨rfl, hs⟩ | ⟨rfl, hs⟩
      · refine iteT ⟨_, rfl, y, d1, "str", rfl, hy, tok_str, _, rfl, ?_⟩
        rw [isA_str]
        cases hy with
        | str x hx =>
          refine iteT ⟨_, rfl, (by show 2 ≤ sizeLine; decide), fun p hp => ⟨p, _, rfl, .inr (SqT.of upd_same), rfl, rfl, ?_⟩⟩
          have z := q _ (Same.new (o := .tup [.str "go", .str "deadline"]) hp)
          have e : isEnding (.tuple [.str x]) = inV (.str x) [.str "go", .str "deadline"] := by
            show (x == "go" || x == "deadline") = ((("go" : Str) == x) || ((("deadline" : Str) == x) || false))
            rw [Bool.or_false, Bool.beq_comm (a := x), Bool.beq_comm (a := x)]
          rw [e] at z
          exact z
        | _ => exact iteF (q H (Same.refl H))
      · exact iteF (q H (Same.refl H))
    · intro hne
      refine ⟨d, hd, ?_, ?_⟩
      · intro a xs ds ev hs ha hl y1 y2 ey
        subst ey
        cases ha with
        | @cons _ _ d1 _ hy hn =>
        cases hn with
        | @cons _ _ d2 _ hy2 hn =>
        cases hn
        refine ⟨_, rfl, v, d, "tuple", rfl, hd, tok_tuple, _, rfl, ?_⟩
        rw [isA_tuple]
        rcases hs with ⟨rfl, hs⟩ | ⟨rfl, hs⟩
        · refine iteF ⟨_, rfl, y1, d1, "str", rfl, hy, tok_str, _, rfl, ?_⟩
          rw [isA_str]
          cases hy with
          | str x hx =>
            refine iteF ⟨_, rfl, rfl, _, rfl, ?_⟩
            have z := q H (Same.refl H)
            have z' : Q (.bl (x == "stop" && isBetw d2 0 20)) H := z
            by_cases hx2 : x = "stop"
            · subst hx2
              refine iteY rfl ⟨_, rfl, y2, d2, 0, 20, rfl, hy2, ?_⟩
              exact z'
            · have e : (x == ("stop" : Str)) = false := by simpa using hx2
              rw [e] at z'
              exact iteN (fun z => hx2 (V.str.inj z)) z'
          | _ => exact iteT (q H (Same.refl H))
        · exact iteT (q H (Same.refl H))
      · intro hne2
        have z := q H (Same.refl H)
        have e : isEnding d = false := by
          unfold isEnding
          split
          · exact absurd rfl hne
          · exact absurd rfl hne2
          · rfl
        rw [e] at z
        exact z
theorem Dq.isN {K : PySem.W.Frag} {H : Hp} {v : V} {d : PyData} (h : Dq K H v d) : (!decide (v = .non)) = notN d := by
  cases h <;> rfl
theorem sc_are_pauses : FnScope ["value", "tries", "one"] ["value", "tries"] (defScope s_are_pauses) := ⟨rfl, rfl, rfl, by decide +kernel, rfl, by decide +kernel, by decide +kernel⟩
theorem ok_are_pauses (F : FnP K "are_pauses" s_are_pauses f fd) {g' : Addr} {gd' : FuncData} (G' : FnP K "is_integer" s_is_integer g' gd') (gg' : mg "is_integer" = some (.ref g')) (G : FnP K "is_between" s_is_between g gd) (gg : mg "is_between" = some (.ref g)) (B : Blt mg) : FnOk P w K mg base CX0 3 f fd ["value", "tries"] (spPauses K) := by
  obtain ⟨t1, g1⟩ := B.mxp
  have b : Binds K gd ["value", "low", "high"] [] := G.bindsN fun _ _ _ _ _ _ us hl => match us, hl with | [_, _, _], _ => rfl
  refine F.ok sc_are_pauses (fun vs H Q E h => ?_) (fun cdv A outer s H vs Q E hr h => ?_)
  · obtain ⟨v, d, n, rfl, _⟩ := h
    rfl
  · obtain ⟨v, d, n, rfl, hn100, hd, q⟩ := h
    refine ⟨_, pss_cons (ps_if (PW.pt (pw_or (pt_not (pt_val (pe_callB call_isD (by rfl) B.isi boot_isinstance (pa_cons (pv 0) (pa_cons (pe_bltn (v := .ty "tuple") (by rfl) B.tuple (by decide +kernel) rfl) pa_nil)))))
        (pw_or1 (pt_cmpR op_ne (pe_callB call_len (by rfl) B.len PySem.boot_len (pa_cons (pv 0) pa_nil)) (pe_op op_sub (pv 1) pe_int) (nomark _)))))
        (pss_one (ps_ret pe_bl)) pss_nil)
      (pss_one (ps_ret (pe_callB (cr_all rfl) (by rfl) B.all boot_all (pa_cons (pe_lc (own := [("one", 2)]) (g := gName 2) (tt := tYes) rfl sc_are_pauses.nd (pi_tup (pv 0)) (blkOk_by (N := ["value", "tries", "one"]) (sc := defScope s_are_pauses) (by decide +kernel))
        (fun _ _ _ _ _ => pg_name (i := 2) sc_are_pauses.nd rfl (Or.inl rfl)) (fun _ _ _ _ _ => pts_nil)
        (fun _ _ _ _ _ => pe_call (ok_is_between G G' gg' B) hr rfl gg G.kp b .nil pass0 (pa_cons (pv 2) (pa_cons pe_int (pa_cons (pe_glob (v := .int 8) rfl g1 ⟨_, rfl⟩) pa_nil))))) pa_nil)))), ?_⟩
    refine ⟨_, rfl, v, d, "tuple", rfl, hd, tok_tuple, _, rfl, ?_⟩
    rw [isA_tuple]
    cases hd with
    | @tup a xs ds hs ha =>
      have el := ha.len
      have q' : ∀ H', Same H H' → Q (.bl (decide ((ds.length : Int) = n - 1) && ds.all fun e => isBetw e 0 8)) H' := q
      refine iteF ⟨_, rfl, _, xs.length, rfl, .inr ⟨_, hs, rfl⟩, _, rfl, _, _, rfl, rfl, rfl, _, rfl, ?_⟩
      by_cases hn : (ds.length : Int) = n - 1
      · rw [decide_eq_true hn] at q'
        refine iteNY (congrArg V.int (by rw [el]; exact hn)) ?_
        refine ⟨_, rfl, a, rfl, ⟨_, hs⟩, fun D hD => ?_⟩
        have hlen : xs.length ≤ sizeLine := Nat.le_trans (by omega : xs.length ≤ 100) (by decide)
        refine lc_map walk_tup (ds.map fun e => V.bl (isBetw e 0 8)) (by rw [List.length_map, el]) hlen (fun acc => SqT.upT (Same.new hD) hs) (fun _ => rfl) (fun i y acc Q' hi hy k => ?_) ?_
        · obtain ⟨e, he, hye⟩ := ha.at hy
          refine ⟨_, rfl, y, e, 0, 8, rfl, hye.up (Same.new hD), k _ ?_⟩
          rw [List.getElem?_map, he]
          rfl
        · refine ⟨D, ds.map fun e => isBetw e 0 8, rfl, SqL.of (by rw [upd_same, List.map_map]; rfl), ?_⟩
          have e : (ds.map fun e => isBetw e 0 8).all id = ds.all fun e => isBetw e 0 8 := by rw [List.all_map]; rfl
          rw [e]
          exact q' _ (Same.new hD)
      · rw [decide_eq_false hn] at q'
        exact iteNN (fun z => hn (by rw [← el]; exact V.int.inj z)) (q' H (Same.refl H))
    | _ => exact iteT (q H (Same.refl H))
end
end K04
namespace K04
open PySem PySem.Spec PyProof.Rows L2
section
variable {P : Program} {w : World} {K : PySem.W.Frag} {mg : Str → Option Value} {base : Heap} {f g : Addr} {fd gd : FuncData} {CX : CXT}
theorem isBetw_int {d : PyData} {lo hi : Int} (h : isBetw d lo hi = true) : ∃ i, d = .int i ∧ lo ≤ i ∧ i ≤ hi := by
  cases d with
  | int i =>
    have z : (decide (lo ≤ i) && decide (i ≤ hi)) = true := h
    simp only [Bool.and_eq_true, decide_eq_true_eq] at z
    exact ⟨i, rfl, z.1, z.2⟩
  | _ => cases h
theorem dq_int {K : PySem.W.Frag} {H : Hp} {v : V} {i : Int} (h : Dq K H v (.int i)) : v = .int i := by cases h; rfl
theorem dq_isN {K : PySem.W.Frag} {H : Hp} {v : V} {d : PyData} (h : Dq K H v d) : (!decide (v = .non)) = notN d := by
  cases h <;> rfl
theorem sc_wrong_field : FnScope ["limit", "tries", "pauses", "early", "lossy", "ending"] ["limit", "tries", "pauses", "early", "lossy", "ending"] (defScope s_wrong_field) := ⟨rfl, rfl, rfl, by decide +kernel, rfl, by decide +kernel, by decide +kernel⟩
theorem ok_wrong_field (F : FnP K "wrong_field" s_wrong_field f fd) {g1 g2 g3 g4 : Addr} {e1 e2 e3 e4 : FuncData} (G1 : FnP K "is_integer" s_is_integer g1 e1) (m1 : mg "is_integer" = some (.ref g1)) (G2 : FnP K "is_between" s_is_between g2 e2) (m2 : mg "is_between" = some (.ref g2))
    (G3 : FnP K "are_pauses" s_are_pauses g3 e3) (m3 : mg "are_pauses" = some (.ref g3)) (G4 : FnP K "is_ending" s_is_ending g4 e4) (m4 : mg "is_ending" = some (.ref g4)) (B : Blt mg) : FnOk P w K mg base CX0 4 f fd ["limit", "tries", "pauses", "early", "lossy", "ending"] (spWrong K) := by
  obtain ⟨t1, c1⟩ := B.mxm
  obtain ⟨t2, c2⟩ := B.mxt
  have b2 : Binds K e2 ["value", "low", "high"] [] := G2.bindsN fun _ _ _ _ _ _ us hl => match us, hl with | [_, _, _], _ => rfl
  have b3 : Binds K e3 ["value", "tries"] [] := G3.bindsN fun _ _ _ _ _ _ us hl => match us, hl with | [_, _], _ => rfl
  have b4 : Binds K e4 ["value"] [] := G4.bindsN fun _ _ _ _ _ _ us hl => match us, hl with | [_], _ => rfl
  have F2 : FnOk P w K mg base CX0 2 g2 e2 ["value", "low", "high"] (spBetw K) := ok_is_between G2 G1 m1 B
  have F3 : FnOk P w K mg base CX0 3 g3 e3 ["value", "tries"] (spPauses K) := ok_are_pauses G3 G1 m1 G2 m2 B
  have F4 : FnOk P w K mg base CX0 3 g4 e4 ["value"] (spEnding K) := ok_is_ending G4 G1 m1 G2 m2 B
  refine F.ok sc_wrong_field (fun vs H Q E h => ?_) (fun cdv A outer s H vs Q E hr h => ?_)
  · obtain ⟨_, _, _, _, _, _, _, _, _, _, _, _, rfl, _⟩ := h
    rfl
  · obtain ⟨v0, v1, v2, v3, v4, v5, d0, d1, d2, d3, d4, d5, rfl, h0, h1, h2, h3, h4, h5, q⟩ := h
    have hr2 := hr.mono (by decide : 2 ≤ 3)
    refine ⟨_, (pss_cons (ps_if (pt_not (pt_val (pe_call F2 hr2 rfl m2 G2.kp b2 .nil pass0 (pa_cons (pv 0) (pa_cons pe_int (pa_cons (pe_glob (v := .int 20) rfl c1 ⟨_, rfl⟩) pa_nil)))))) (pss_one (ps_ret pe_str)) pss_nil)
      (pss_cons (ps_if (pt_not (pt_val (pe_call F2 hr2 rfl m2 G2.kp b2 .nil pass0 (pa_cons (pv 1) (pa_cons pe_int (pa_cons (pe_glob (v := .int 3) rfl c2 ⟨_, rfl⟩) pa_nil)))))) (pss_one (ps_ret pe_str)) pss_nil)
      (pss_cons (ps_if (PW.pt (pw_and (pt_cmp (pc_notN (pv 2))) (pw_and1 (PW.pt (pw_or (pt_cmp (pc_notN (pv 3))) (pw_or1 (pt_not (pt_val (pe_call F3 hr rfl m3 G3.kp b3 .nil pass0 (pa_cons (pv 2) (pa_cons (pv 1) pa_nil))))))))))) (pss_one (ps_ret pe_str)) pss_nil)
      (pss_cons (ps_if (PW.pt (pw_and (pt_cmp (pc_notN (pv 3))) (pw_and1 (PW.pt (pw_or (pt_cmpR op_lt (pv 1) pe_int (nomark _)) (pw_or1 (pt_not (pt_val (pe_call F2 hr2 rfl m2 G2.kp b2 .nil pass0 (pa_cons (pv 3) (pa_cons pe_int (pa_cons (pe_glob (v := .int 20) rfl c1 ⟨_, rfl⟩) pa_nil)))))))))))) (pss_one (ps_ret pe_str)) pss_nil)
      (pss_cons (ps_if (pt_not (pt_val (pe_callB call_isD (by rfl) B.isi (by decide +kernel) (pa_cons (pv 4) (pa_cons (pe_bltn (v := .ty "bool") (by rfl) B.bool (by decide +kernel) rfl) pa_nil))))) (pss_one (ps_ret pe_str)) pss_nil)
      (pss_one (ps_ret (pe_ifExp (pt_val (pe_call F4 hr rfl m4 G4.kp b4 .nil pass0 (pa_cons (pv 5) pa_nil))) pe_non pe_str)))))))), ?_⟩
    unfold wrongField at q
    refine ⟨_, rfl, v0, d0, 1, 20, rfl, h0, _, rfl, ?_⟩
    cases e0 : isBetw d0 1 20 with
    | false =>
      rw [e0] at q
      exact iteT (q H (Same.refl H))
    | true =>
    rw [e0] at q
    refine iteF ⟨_, rfl, v1, d1, 1, 3, rfl, h1, _, rfl, ?_⟩
    cases e1 : isBetw d1 1 3 with
    | false =>
      rw [e1] at q
      exact iteT (q H (Same.refl H))
    | true =>
    rw [e1] at q
    obtain ⟨n, rfl, hn1, hn2⟩ := isBetw_int e1
    obtain rfl := dq_int h1
    replace q : ∀ H', Same H H' → Q (oStr (cond (notN d2 && (notN d3 || !arePauses d2 n)) (some "pauses") (cond (notN d3 && (decide (n < 2) || !isBetw d3 1 20)) (some "early") (cond (isBoolD d4) (cond (isEnding d5) none (some "ending")) (some "lossy"))))) H' := q
    refine iteF ⟨_, rfl, _, rfl, ?_⟩
    -- the last three questions, from any heap above
    have last : ∀ H1, Same H H1 → (∀ H', Same H H' → Q (oStr (cond (isBoolD d4) (cond (isEnding d5) none (some "ending")) (some "lossy"))) H') →
        tSeq (tIfS (tNot (tB (tCB (rIsD K) (tCons (tVar 4) (tCons (tC (.ty "bool")) tNil))))) (tRet (tC (.str "lossy"))) tNext)
          (tRet (tIf (tB (tCall (spEnding K) [] E0 (tCons (tVar 5) tNil))) (tC .non) (tC (.str "ending")))) { nx := fun _ H' => Q .non H', rt := Q } (start ["limit", "tries", "pauses", "early", "lossy", "ending"] [v0, .int n, v2, v3, v4, v5]) H1 := by
      intro H1 s1 q
      refine ⟨_, rfl, v4, d4, "bool", rfl, h4.up s1, tok_bool, _, rfl, ?_⟩
      rw [isA_bool]
      cases e4 : isBoolD d4 with
      | false =>
        rw [e4] at q
        exact iteT (q H1 s1)
      | true =>
      rw [e4] at q
      refine iteF ⟨_, rfl, v5, d5, rfl, h5.up s1, fun H2 s2 => ⟨_, rfl, ?_⟩⟩
      have z := q H2 (s1.trans s2)
      cases e5 : isEnding d5 with
      | true =>
        rw [e5] at z
        exact iteT z
      | false =>
        rw [e5] at z
        exact iteF z
    rw [dq_isN h2]
    cases e2 : notN d2 with
    | true =>
      refine iteT ⟨_, rfl, _, rfl, ?_⟩
      rw [dq_isN h3]
      cases e3 : notN d3 with
      | true =>
        rw [e2, e3] at q
        exact iteT (q H (Same.refl H))
      | false =>
        refine iteF ⟨_, rfl, _, rfl, v2, d2, n, rfl, by omega, h2, fun H1 s1 => ⟨_, rfl, ?_⟩⟩
        rw [e2, e3] at q
        cases ep : arePauses d2 n with
        | false =>
          rw [ep] at q
          exact iteT (q H1 s1)
        | true =>
          rw [ep] at q
          refine iteF ⟨_, rfl, _, rfl, ?_⟩
          rw [dq_isN h3, e3]
          exact iteF (last H1 s1 q)
    | false =>
      rw [e2] at q
      refine iteF ⟨_, rfl, _, rfl, ?_⟩
      rw [dq_isN h3]
      cases e3 : notN d3 with
      | false =>
        rw [e3] at q
        exact iteF (last H (Same.refl H) q)
      | true =>
        rw [e3] at q
        refine iteT ⟨_, rfl, _, _, rfl, rfl, _, rfl, ?_⟩
        by_cases hn : n < 2
        · rw [decide_eq_true hn] at q
          exact iteY hn (q H (Same.refl H))
        · rw [decide_eq_false hn] at q
          refine iteN hn ⟨_, rfl, v3, d3, 1, 20, rfl, h3, _, rfl, ?_⟩
          cases eb : isBetw d3 1 20 with
          | false =>
            rw [eb] at q
            exact iteT (q H (Same.refl H))
          | true =>
            rw [eb] at q
            exact iteF (last H (Same.refl H) q)
end
end K04
namespace K04
open PySem PySem.Spec PyProof.Rows L2
abbrev s_law_pool : Stmt := top 24
abbrev s_law_draw : Stmt := top 25
abbrev s_law_choose : Stmt := top 26
/-! ### the law's draws: a pool is a list of two ints -/
def IsPool (H : Hp) (p : Addr) : Prop := ∃ c z : Int, H p = some (.lst [.int c, .int z]) ∧ 0 ≤ z ∧ z < 2147483647
abbrev poolO (c z : Int) : HO := .lst [.int c, .int z]
def spPool (K : PySem.W.Frag) : Sp := fun vs H Q _ => ∃ (a : Addr) (ns : List Int) (k : Int), vs = [.ref a, .int k] ∧ SqL K H a (ns.map V.int) ∧ ns.length ≤ 1000 ∧ 0 ≤ k ∧ k ≤ 100 ∧ ∀ p c z, H p = none → 0 ≤ z → z < 2147483647 → Q (.ref p) (upd H p (poolO c z))
def spDraw : Sp := fun vs H Q _ => ∃ (p : Addr) (m : Int), vs = [.ref p, .int m] ∧ IsPool H p ∧ 0 < m ∧ m < 1073741824 ∧ ∀ d c z, 0 ≤ d → d < m → 0 ≤ z → z < 2147483647 → Q (.int d) (upd H p (poolO c z))
def spChoose (K : PySem.W.Frag) : Sp := fun vs H Q _ => ∃ (p l : Addr) (xs : List V), vs = [.ref p, .ref l] ∧ IsPool H p ∧ SqL K H l xs ∧ (∀ o, SqL K (upd H p o) l xs) ∧ xs ≠ [] ∧ xs.length ≤ 1000 ∧
  ∀ x c z, x ∈ xs → 0 ≤ z → z < 2147483647 → Q x (upd H p (poolO c z))
section
variable {P : Program} {w : World} {K : PySem.W.Frag} {mg : Str → Option Value} {base : Heap} {f g : Addr} {fd gd : FuncData} {CX : CXT}
theorem emod_lt {a m : Int} (h : 0 < m) : 0 ≤ a % m ∧ a % m < m := ⟨Int.emod_nonneg _ (by omega), Int.emod_lt_of_pos _ h⟩
theorem sc_law_pool : FnScope ["_law_script", "_law_k", "_law_cell", "_law_seed"] ["_law_script", "_law_k"] (defScope s_law_pool) := ⟨rfl, rfl, rfl, by decide +kernel, rfl, by decide +kernel, by decide +kernel⟩
theorem ok_law_pool (F : FnP K "_law_pool" s_law_pool f fd) (mlen : mg "len" = none) (mint : mg "int" = none) : FnOk P w K mg base CX0 1 f fd ["_law_script", "_law_k"] (spPool K) := by
  refine F.ok sc_law_pool (fun vs H Q E h => ?_) (fun cdv A outer s H vs Q E hr h => ?_)
  · obtain ⟨_, _, _, rfl, _⟩ := h
    rfl
  · obtain ⟨a, ns, k, rfl, hS, hlen, hk0, hk1, q⟩ := h
    refine ⟨_, (pss_cons (ps_set (i := 2) sc_law_pool.nd rfl (Or.inl rfl) pe_int)
      (pss_cons (ps_if (pt_cmpR op_lt (pv 1) (pe_callB call_len (by rfl) mlen (by decide +kernel) (pa_cons (pv 0) pa_nil)) (nomark _)) (pss_one (ps_set (i := 2) sc_law_pool.nd rfl (Or.inl rfl) (pe_ix ix_list (pv 0) (pv 1) (fun _ _ => rfl)))) pss_nil)
      (pss_cons (ps_set (i := 3) sc_law_pool.nd rfl (Or.inl rfl) (pe_op op_mod (pe_op op_pow (pe_op op_add (pe_op op_add (pe_op op_mod (pe_callTy call_int1 (by rfl) mint (by decide +kernel) (pa_cons (pv 2) pa_nil)) pe_int) (pe_op op_mul (pe_op op_mul pe_int (pv 1)) (pv 1))) pe_int) pe_int) pe_int))
      (pss_cons (ps_if (pt_cmpR op_lt (pv 2) (pe_op op_pow pe_int pe_int) (nomark _)) (pss_one (ps_set (i := 2) sc_law_pool.nd rfl (Or.inl rfl) pe_int)) pss_nil)
      (pss_one (ps_ret (pe_lst (pa_cons (pv 2) (pa_cons (pv 3) pa_nil))))))))), ?_⟩
    have hkk : 0 ≤ 7919 * k ∧ 7919 * k ≤ 791900 := by omega
    have hk2 : 0 ≤ 7919 * k * k ∧ 7919 * k * k ≤ 79190000 := by
      refine ⟨Int.mul_nonneg hkk.1 hk0, ?_⟩
      have z : 7919 * k * k ≤ 791900 * 100 := Int.mul_le_mul hkk.2 hk1 hk0 (by decide)
      omega
    refine ⟨_, rfl, _, rfl, _, (ns.map V.int).length, rfl, .inl ⟨_, hS, rfl⟩, _, _, rfl, rfl, _, rfl, ?_⟩
    have hb : ∀ cell : Int, (cell % 2147483629 + 7919 * k * k + 31).natAbs < 2 ^ 64 := fun cell => by
      have z := @emod_lt cell 2147483629 (by decide)
      omega
    by_cases hk : k < ((ns.map V.int).length : Int)
    · refine iteY hk ?_
      obtain ⟨i, rfl⟩ := Int.eq_ofNat_of_zero_le hk0
      have hi : i < ns.length := by rw [List.length_map] at hk; omega
      refine ⟨_, rfl, _, rfl, a, _, _, .int ns[i], rfl, rfl, hS, atI_nat (by simp [hi]), ?_⟩
      refine ⟨_, rfl, .inl ⟨_, rfl, _, _, rfl, rfl, (by decide : (0 : Int) < 2147483629), _, rfl, _, _, rfl, rfl, .inl ⟨by decide, by decide⟩, _, rfl, _, _, rfl, rfl, .inl ⟨by omega, by omega⟩, _, _, rfl, rfl, _, _, rfl, rfl, _, _, rfl, rfl, ⟨by decide, by decide, hb _⟩, _, _, rfl, rfl, (by decide : (0 : Int) < 2147483647), ?_⟩⟩
      refine ⟨_, rfl, _, _, rfl, rfl, ⟨by decide, by decide, by decide⟩, _, _, rfl, rfl, _, rfl, ?_⟩
      refine iteB (fun _ => ?_) (fun _ => ?_)
      · exact ⟨_, rfl, _, rfl, (by show 2 ≤ sizeLine; decide), fun p hp => q p _ _ hp (emod_lt (by decide)).1 (emod_lt (by decide)).2⟩
      · exact ⟨_, rfl, _, rfl, (by show 2 ≤ sizeLine; decide), fun p hp => q p _ _ hp (emod_lt (by decide)).1 (emod_lt (by decide)).2⟩
    · refine iteN hk ?_
      refine ⟨_, rfl, .inl ⟨_, rfl, _, _, rfl, rfl, (by decide : (0 : Int) < 2147483629), _, rfl, _, _, rfl, rfl, .inl ⟨by decide, by decide⟩, _, rfl, _, _, rfl, rfl, .inl ⟨by omega, by omega⟩, _, _, rfl, rfl, _, _, rfl, rfl, _, _, rfl, rfl, ⟨by decide, by decide, hb _⟩, _, _, rfl, rfl, (by decide : (0 : Int) < 2147483647), ?_⟩⟩
      refine ⟨_, rfl, _, _, rfl, rfl, ⟨by decide, by decide, by decide⟩, _, _, rfl, rfl, _, rfl, ?_⟩
      refine iteB (fun _ => ?_) (fun _ => ?_)
      · exact ⟨_, rfl, _, rfl, (by show 2 ≤ sizeLine; decide), fun p hp => q p _ _ hp (emod_lt (by decide)).1 (emod_lt (by decide)).2⟩
      · exact ⟨_, rfl, _, rfl, (by show 2 ≤ sizeLine; decide), fun p hp => q p _ _ hp (emod_lt (by decide)).1 (emod_lt (by decide)).2⟩
theorem sc_law_draw : FnScope ["_law_pool_here", "_law_many", "_law_digit"] ["_law_pool_here", "_law_many"] (defScope s_law_draw) := ⟨rfl, rfl, rfl, by decide +kernel, rfl, by decide +kernel, by decide +kernel⟩
theorem ok_law_draw (F : FnP K "_law_draw" s_law_draw f fd) (mint : mg "int" = none) : FnOk P w K mg base CX0 1 f fd ["_law_pool_here", "_law_many"] spDraw := by
  refine F.ok sc_law_draw (fun vs H Q E h => ?_) (fun cdv A outer s H vs Q E hr h => ?_)
  · obtain ⟨_, _, rfl, _⟩ := h
    rfl
  · obtain ⟨p, m, rfl, ⟨c, z, hp, hz0, hz1⟩, hm0, hm1, q⟩ := h
    refine ⟨_, (pss_cons (ps_if (pt_cmpR op_gt (pe_ix ix_list (pv 0) pe_int (fun _ _ => rfl)) pe_int (nomark _)) (pss_cons (ps_set (i := 2) sc_law_draw.nd rfl (Or.inl rfl) (pe_op op_mod (pe_callTy call_int1 (by rfl) mint (by decide +kernel) (pa_cons (pe_ix ix_list (pv 0) pe_int (fun _ _ => rfl)) pa_nil)) (pv 1)))
      (pss_cons (ps_asg (pe_op op_fdiv (pe_ix ix_list (pv 0) pe_int (fun _ _ => rfl)) (pv 1)) (pg_sub (pv 0) pe_int set_list))
      (pss_one (ps_ret (pv 2))))) pss_nil)
      (pss_cons (ps_asg (pe_op op_mod (pe_callTy call_int1 (by rfl) mint (by decide +kernel) (pa_cons (pe_op op_add (pe_op op_mul (pe_ix ix_list (pv 0) pe_int (fun _ _ => rfl)) pe_int) pe_int) pa_nil)) pe_int) (pg_sub (pv 0) pe_int set_list))
      (pss_one (ps_ret (pe_op op_mod (pe_op op_fdiv (pe_op op_mod (pe_callTy call_int1 (by rfl) mint (by decide +kernel) (pa_cons (pe_op op_mul (pe_ix ix_list (pv 0) pe_int (fun _ _ => rfl)) (pe_ix ix_list (pv 0) pe_int (fun _ _ => rfl))) pa_nil)) pe_int) pe_int) (pv 1)))))), ?_⟩
    refine ⟨_, rfl, p, _, 0, _, rfl, rfl, SqL.of hp, rfl, _, _, rfl, rfl, _, rfl, ?_⟩
    by_cases h0 : 0 < c
    · refine iteY h0 ?_
      refine ⟨_, rfl, p, _, 0, _, rfl, rfl, SqL.of hp, rfl, .inl ⟨c, rfl, _, rfl, _, _, rfl, rfl, hm0, ?_⟩⟩
      refine ⟨_, rfl, p, _, 0, _, rfl, rfl, SqL.of hp, rfl, _, rfl, _, _, rfl, rfl, ⟨hm0, hm1⟩, _, rfl, p, _, 0, 0, rfl, rfl, hp, rfl, ?_⟩
      exact ⟨_, rfl, q (c % m) (c / m) z (emod_lt hm0).1 (emod_lt hm0).2 hz0 hz1⟩
    · refine iteN h0 ?_
      have hz := @emod_lt (z * 48271 + 11) 2147483647 (by decide)
      refine ⟨_, rfl, p, _, 1, _, rfl, rfl, SqL.of hp, rfl, _, _, rfl, rfl, .inl ⟨by omega, by omega⟩, _, _, rfl, rfl, .inl ⟨_, rfl, _, _, rfl, rfl, (by decide : (0 : Int) < 2147483647), _, rfl, p, _, 1, 1, rfl, rfl, hp, rfl, ?_⟩⟩
      refine ⟨_, rfl, p, _, 1, _, rfl, rfl, SqL.of upd_same, rfl, _, rfl, p, _, 1, _, rfl, rfl, SqL.of upd_same, rfl, _, _, rfl, rfl, .inl ⟨by omega, by omega⟩, .inl ⟨_, rfl, _, _, rfl, rfl, (by decide : (0 : Int) < 2147483629), _, _, rfl, rfl, ⟨by decide, by decide⟩, _, rfl, _, _, rfl, rfl, hm0, ?_⟩⟩
      exact q _ c ((z * 48271 + 11) % 2147483647) (emod_lt hm0).1 (emod_lt hm0).2 hz.1 hz.2
theorem sc_law_choose : FnScope ["_law_pool_here", "_law_items"] ["_law_pool_here", "_law_items"] (defScope s_law_choose) := ⟨rfl, rfl, rfl, by decide +kernel, rfl, by decide +kernel, by decide +kernel⟩
theorem ok_law_choose (F : FnP K "_law_choose" s_law_choose f fd) {gD : Addr} {eD : FuncData} (GD : FnP K "_law_draw" s_law_draw gD eD) (mD : mg "_law_draw" = some (.ref gD)) (mlen : mg "len" = none) (mint : mg "int" = none) : FnOk P w K mg base CX0 2 f fd ["_law_pool_here", "_law_items"] (spChoose K) := by
  have bD : Binds K eD ["_law_pool_here", "_law_many"] [] := GD.bindsN fun _ _ _ _ _ _ us hl => match us, hl with | [_, _], _ => rfl
  have FD : FnOk P w K mg base CX0 1 gD eD ["_law_pool_here", "_law_many"] spDraw := ok_law_draw GD mint
  refine F.ok sc_law_choose (fun vs H Q E h => ?_) (fun cdv A outer s H vs Q E hr h => ?_)
  · obtain ⟨_, _, _, rfl, _⟩ := h
    rfl
  · obtain ⟨p, l, xs, rfl, hp, hl, hl2, hne, hlen, q⟩ := h
    refine ⟨_, (pss_one (ps_ret (pe_ix ix_list (pv 1) (pe_call FD hr rfl mD GD.kp bD .nil pass0 (pa_cons (pv 0) (pa_cons (pe_callB call_len (by rfl) mlen (by decide +kernel) (pa_cons (pv 1) pa_nil)) pa_nil))) (fun _ _ => rfl)))), ?_⟩
    have hpos : 0 < xs.length := List.length_pos_iff.mpr hne
    refine ⟨_, rfl, _, rfl, _, rfl, _, xs.length, rfl, .inl ⟨_, hl, rfl⟩, p, xs.length, rfl, hp, by omega, by omega, fun d c z hd0 hd1 hz0 hz1 => ?_⟩
    obtain ⟨i, rfl⟩ := Int.eq_ofNat_of_zero_le hd0
    have hi : i < xs.length := by omega
    exact ⟨l, xs, _, xs[i], rfl, rfl, hl2 _, atI_nat (by simp [hi]), q _ c z (List.getElem_mem hi) hz0 hz1⟩
end
end K04
namespace K04
open PySem PySem.Spec PyProof.Rows L2
def ownPauses (n : Int) (dp de : PyData) : PyData := match dp with
  | .none => cond (notN de) (.tuple []) (.tuple (List.replicate (n - 1).toNat (.int 0)))
  | d => d
def polF : List Str := ["own_name", "own_limit", "own_tries", "own_pauses", "own_early", "own_lossy", "own_ending"]
/-- own_pauses -/
def tPau (K : PySem.W.Frag) : TE := fun σ H Q => ∃ (v2 v3 : V) (n : Int) (d2 d3 : PyData), σ[3]? = some (some (.int n)) ∧ σ[4]? = some (some v2) ∧ σ[5]? = some (some v3) ∧ 1 ≤ n ∧ n ≤ 3 ∧ Dq K H v2 d2 ∧ Dq K H v3 d3 ∧ (d2 = .none ∨ ∃ ds, d2 = .tuple ds) ∧
  ∀ vp H', Same H H' → Dq K H' vp (ownPauses n d2 d3) → Q vp H'
theorem DqA.rep {K : PySem.W.Frag} {H : Hp} {v : V} {d : PyData} (h : Dq K H v d) : ∀ n : Nat, DqA K H (List.replicate n v) (List.replicate n d)
  | 0 => .nil
  | n + 1 => .cons h (DqA.rep h n)
theorem pau_run {K : PySem.W.Frag} {σ : L2.St} {H : Hp} {Q : VK} (q : tPau K σ H Q) : tIf (tAnd (tB (tIsN (tVar 4))) (tB (tIsN (tVar 5)))) (tOp (rRep1 K) (tTup (tCons (tC (.int 0)) tNil)) (tOp rSub (tVar 3) (tC (.int 1)))) (tOrT K (tVar 4) (tTup tNil)) σ H Q := by
  obtain ⟨v2, v3, n, d2, d3, e3, e4, e5, hn1, hn2, h2, h3, hd, q⟩ := q
  have nil0 : ∀ (H' : Hp) (p : Addr), H' p = none → Same H H' → Dq K (upd H' p (.tup [])) (.ref p) (.tuple []) := fun H' p hp s => .tup (SqT.of upd_same) .nil
  refine ⟨v2, e4, _, rfl, ?_⟩
  rcases hd with rfl | ⟨ds, rfl⟩
  · cases h2
    refine iteY rfl ⟨v3, e5, _, rfl, ?_⟩
    by_cases hv : v3 = .non
    · subst hv
      cases h3
      refine iteY rfl ⟨(by show 1 ≤ sizeLine; decide), fun p hp => ⟨_, e3, _, _, rfl, rfl, p, (n - 1).toNat, .int 0, rfl, ?_, SqT.of upd_same, by omega, fun p' H' s' hT => ?_⟩⟩
      · rw [Int.toNat_of_nonneg (by omega)]
      · exact q _ _ ((Same.new' hp).trans s') (.tup hT (DqA.rep (.int 0) _))
    · have hd3 : notN d3 = true := by
        cases h3 with
        | non => exact absurd rfl hv
        | _ => rfl
      refine iteN hv ⟨_, e4, false, rfl, iteF ⟨(by show 0 ≤ sizeLine; decide), fun p hp => ?_⟩⟩
      refine q _ _ (Same.new' hp) ?_
      unfold ownPauses
      rw [hd3]
      exact nil0 H p hp (Same.refl H)
  · cases h2 with
    | @tup a xs _ hT ha =>
    refine iteN (fun z => nomatch z) (iteF ⟨_, e4, !xs.isEmpty, .inr (.inl ⟨_, hT, rfl⟩), ?_⟩)
    cases ha with
    | nil => exact iteF ⟨(by show 0 ≤ sizeLine; decide), fun p hp => q _ _ (Same.new' hp) (nil0 H p hp (Same.refl H))⟩
    | cons h t => exact iteT (q _ H (Same.refl H) (.tup hT (.cons h t)))
/-- Policy.__init__: the two errors, or an instance with its seven fields -/
def spPolI (K : PySem.W.Frag) (C CN CP : Addr) : Sp := fun vs H Q E => ∃ (p dx : Addr) (vn v0 v1 v2 v3 v4 v5 : V) (dn d0 d1 d2 d3 d4 d5 : PyData), vs = [.ref p, vn, v0, v1, v2, v3, v4, v5] ∧ H p = some (.ins C dx []) ∧
  Dq K H vn dn ∧ Dq K H v0 d0 ∧ Dq K H v1 d1 ∧ Dq K H v2 d2 ∧ Dq K H v3 d3 ∧ Dq K H v4 d4 ∧ Dq K H v5 d5 ∧
  (isName dn = false → ∀ H' d, Same H H' → H' d = none → E (.ref CN) (some d) (upd H' d (.xd [("value", vn)]))) ∧
  (isName dn = true → ∀ wf, wrongField d0 d1 d2 d3 d4 d5 = some wf → ∀ H' d, Same H H' → H' d = none → E (.ref CP) (some d) (upd H' d (.xd [("field", .str wf)]))) ∧
  (isName dn = true → wrongField d0 d1 d2 d3 d4 d5 = none → ∀ H' vp, (∀ b o, b ≠ p → H b = some o → H' b = some o) → Dq K H' vp (ownPauses (intOf d1) d2 d3) → H' p = some (.ins C dx (polF.zip [vn, v0, v1, vp, v3, v4, v5])) → Q .non H')
structure PolC (K : PySem.W.Frag) (C : Addr) : Prop where
  cl : Cls K C
  n_name : NoAttr K C "own_name"
  n_limit : NoAttr K C "own_limit"
  n_tries : NoAttr K C "own_tries"
  n_pauses : NoAttr K C "own_pauses"
  n_early : NoAttr K C "own_early"
  n_lossy : NoAttr K C "own_lossy"
  n_ending : NoAttr K C "own_ending"
theorem wf_none {d0 d1 d2 d3 d4 d5 : PyData} (h : wrongField d0 d1 d2 d3 d4 d5 = none) : ∃ n, d1 = .int n ∧ 1 ≤ n ∧ n ≤ 3 ∧ (d2 = .none ∨ ∃ ds, d2 = .tuple ds) := by
  unfold wrongField at h
  cases e0 : isBetw d0 1 20 with
  | false => rw [e0] at h; cases h
  | true =>
  cases e1 : isBetw d1 1 3 with
  | false => rw [e0, e1] at h; cases h
  | true =>
  obtain ⟨n, rfl, h1, h2⟩ := isBetw_int e1
  refine ⟨n, rfl, h1, h2, ?_⟩
  cases d2 with
  | none => exact .inl rfl
  | tuple ds => exact .inr ⟨ds, rfl⟩
  | _ => rw [e0, e1] at h; simp [notN, arePauses] at h
section
variable {P : Program} {w : World} {K : PySem.W.Frag} {mg : Str → Option Value} {base : Heap} {f g : Addr} {fd gd : FuncData} {CX : CXT}
abbrev FnPol (K : PySem.W.Frag) (f : Addr) (fd : FuncData) (kws : List (Str × V)) : Prop := FunD K "__init__" "Policy.__init__" (defArgs s_Policy_init) (defBody s_Policy_init) (defScope s_Policy_init) [] kws f fd
theorem pf {f : Str} {v : V} {fs : List (Str × V)} {n : Nat} (h : fs.length ≤ n) : (putF f v fs).length ≤ n + 1 := Nat.le_trans (length_putF _ _ _) (Nat.succ_le_succ h)
mutual
theorem Dq.ins {K : PySem.W.Frag} {H : Hp} {p C dx : Addr} {fs : List (Str × V)} {o : HO} (hp : H p = some (.ins C dx fs)) : ∀ {v : V} {d : PyData}, Dq K H v d → Dq K (upd H p o) v d
  | _, _, .non => .non
  | _, _, .bl b => .bl b
  | _, _, .int i => .int i
  | _, _, .str x h => .str x h
  | _, _, .lst h a => .lst (by
      rcases h with (h | ⟨ob, h⟩) | h
      · exact .inl (.inl (by rw [upd_ne (ne_of h hp (fun z => nomatch z))]; exact h))
      · exact .inl (.inr ⟨ob, by rw [upd_ne (ne_of h hp (fun z => nomatch z))]; exact h⟩)
      · exact .inr h) (DqA.ins hp a)
  | _, _, .tup h a => .tup (by
      rcases h with (h | ⟨ob, h⟩) | h
      · exact .inl (.inl (by rw [upd_ne (ne_of h hp (fun z => nomatch z))]; exact h))
      · exact .inl (.inr ⟨ob, by rw [upd_ne (ne_of h hp (fun z => nomatch z))]; exact h⟩)
      · exact .inr h) (DqA.ins hp a)
  | _, _, .dct h => .dct (by rw [upd_ne (ne_of h hp (fun z => nomatch z))]; exact h)
theorem DqA.ins {K : PySem.W.Frag} {H : Hp} {p C dx : Addr} {fs : List (Str × V)} {o : HO} (hp : H p = some (.ins C dx fs)) : ∀ {vs : List V} {ds : List PyData}, DqA K H vs ds → DqA K (upd H p o) vs ds
  | _, _, .nil => .nil
  | _, _, .cons h r => .cons (Dq.ins hp h) (DqA.ins hp r)
end
theorem sc_Policy_init : FnScope ["self", "name", "limit", "tries", "pauses", "early", "lossy", "ending", "wrong"] ["self", "name", "limit", "tries", "pauses", "early", "lossy", "ending"] (defScope s_Policy_init) := ⟨rfl, rfl, rfl, by decide +kernel, rfl, by decide +kernel, by decide +kernel⟩
theorem ok_Policy_init {kws : List (Str × V)} (F : FnPol K f fd kws) {C CN fN CP fP : Addr} (TN : PySem.MCX.XTxt P K mg "InvalidName" "value" CN fN) (TP : PySem.MCX.XTxt P K mg "InvalidPolicy" "field" CP fP) (TC : PolC K C)
    {g5 g6 : Addr} {e5 e6 : FuncData} (F5 : FnOk P w K mg base CX0 1 g5 e5 ["value"] (spName K)) (m5 : mg "is_name" = some (.ref g5)) (G5 : FnP K "is_name" s_is_name g5 e5)
    (F6 : FnOk P w K mg base CX0 4 g6 e6 ["limit", "tries", "pauses", "early", "lossy", "ending"] (spWrong K)) (m6 : mg "wrong_field" = some (.ref g6)) (G6 : FnP K "wrong_field" s_wrong_field g6 e6) :
    FnOk P w K mg base (L2.CX P w) 5 f fd ["self", "name", "limit", "tries", "pauses", "early", "lossy", "ending"] (spPolI K C CN CP) := by
  have b5 : Binds K e5 ["value"] [] := G5.bindsN fun _ _ _ _ _ _ us hl => match us, hl with | [_], _ => rfl
  have b6 : Binds K e6 ["limit", "tries", "pauses", "early", "lossy", "ending"] [] := G6.bindsN fun _ _ _ _ _ _ us hl => match us, hl with | [_, _, _, _, _, _], _ => rfl
  refine F.ok sc_Policy_init (fun vs H Q E h => ?_) (fun cdv A outer s H vs Q E hr h => ?_)
  · obtain ⟨_, _, _, _, _, _, _, _, _, _, _, _, _, _, _, _, rfl, _⟩ := h
    rfl
  · obtain ⟨p, dx, vn, v0, v1, v2, v3, v4, v5, dn, d0, d1, d2, d3, d4, d5, rfl, hp, hn, h0, h1, h2, h3, h4, h5, qN, qP, qY⟩ := h
    have hr1 := hr.mono (by decide : 1 ≤ 4)
    refine ⟨_, (pss_cons (ps_if (pt_not (pt_val (pe_call F5 hr1 rfl m5 G5.kp b5 .nil pass0 (pa_cons (pv 1) pa_nil)))) (pss_one (ps_raiseX rfl TN hr (takes_of rfl rfl rfl rfl) (pa_cons (pv 1) pa_nil))) pss_nil)
      (pss_cons (ps_set (i := 8) sc_Policy_init.nd rfl (Or.inl rfl) (pe_call F6 hr rfl m6 G6.kp b6 .nil pass0 (pa_cons (pv 2) (pa_cons (pv 3) (pa_cons (pv 4) (pa_cons (pv 5) (pa_cons (pv 6) (pa_cons (pv 7) pa_nil))))))))
      (pss_cons (ps_if (pt_cmp (pc_notN (pv 8))) (pss_one (ps_raiseX rfl TP hr (takes_of rfl rfl rfl rfl) (pa_cons (pv 8) pa_nil))) pss_nil)
      (pss_cons (ps_fld (pv 0) (pv 1) rfl)
      (pss_cons (ps_fld (pv 0) (pv 2) rfl)
      (pss_cons (ps_fld (pv 0) (pv 3) rfl)
      (pss_cons (ps_fld (pv 0) (PE.imp (t' := tPau K) (pe_ifExp (PW.pt (pw_and (pt_cmp (pc_isN (pv 4))) (pw_and1 (pt_cmp (pc_isN (pv 5)))))) (pe_op op_rep1 (pe_tup (pa_cons pe_int pa_nil)) (pe_op op_sub (pv 3) pe_int)) (pe_orT (pv 4) (pe_one (pe_tup pa_nil)))) (fun σ H Q q => pau_run q)) rfl)
      (pss_cons (ps_fld (pv 0) (pv 5) rfl)
      (pss_cons (ps_fld (pv 0) (pv 6) rfl)
      (pss_one (ps_fld (pv 0) (pv 7) rfl))))))))))), ?_⟩
    refine ⟨_, rfl, vn, dn, rfl, hn, fun H1 s1 => ⟨_, rfl, ?_⟩⟩
    cases en : isName dn with
    | false => exact iteT ⟨_, rfl, _, rfl, fun d hd => qN en H1 d s1 hd⟩
    | true =>
    refine iteF ⟨_, rfl, _, rfl, _, rfl, _, rfl, _, rfl, _, rfl, v0, v1, v2, v3, v4, v5, d0, d1, d2, d3, d4, d5, rfl, h0.up s1, h1.up s1, h2.up s1, h3.up s1, h4.up s1, h5.up s1, fun H2 s2 => ?_⟩
    have s02 := s1.trans s2
    cases ew : wrongField d0 d1 d2 d3 d4 d5 with
    | some wf =>
      refine ⟨_, rfl, _, rfl, iteT ⟨_, rfl, _, rfl, fun d hd => qP en wf ew H2 d s02 hd⟩⟩
    | none =>
    have fin := qY en ew
    obtain ⟨n, rfl, hn1, hn2, hd2⟩ := wf_none ew
    obtain rfl := dq_int h1
    refine ⟨_, rfl, _, rfl, iteF ?_⟩
    have hpn := s02 p _ hp
    refine ⟨_, rfl, _, rfl, p, C, dx, _, rfl, hpn, TC.cl, TC.n_name, (Nat.lt_of_le_of_lt (Nat.le_refl 0) (by decide)), ?_⟩
    refine ⟨_, rfl, _, rfl, p, C, dx, _, rfl, upd_same, TC.cl, TC.n_limit, (Nat.lt_of_le_of_lt (pf (Nat.le_refl 0)) (by decide)), ?_⟩
    refine ⟨_, rfl, _, rfl, p, C, dx, _, rfl, upd_same, TC.cl, TC.n_tries, (Nat.lt_of_le_of_lt (pf (pf (Nat.le_refl 0))) (by decide)), ?_⟩
    rw [upd_upd, upd_upd]
    refine ⟨v2, v3, n, d2, d3, rfl, rfl, rfl, hn1, hn2, Dq.ins hpn (h2.up s02), Dq.ins hpn (h3.up s02), hd2, fun vp H3 s3 hvp => ?_⟩
    have hp3 := s3 p _ upd_same
    refine ⟨_, rfl, p, C, dx, _, rfl, hp3, TC.cl, TC.n_pauses, (Nat.lt_of_le_of_lt (pf (pf (pf (Nat.le_refl 0)))) (by decide)), ?_⟩
    refine ⟨_, rfl, _, rfl, p, C, dx, _, rfl, upd_same, TC.cl, TC.n_early, (Nat.lt_of_le_of_lt (pf (pf (pf (pf (Nat.le_refl 0))))) (by decide)), ?_⟩
    refine ⟨_, rfl, _, rfl, p, C, dx, _, rfl, upd_same, TC.cl, TC.n_lossy, (Nat.lt_of_le_of_lt (pf (pf (pf (pf (pf (Nat.le_refl 0)))))) (by decide)), ?_⟩
    refine ⟨_, rfl, _, rfl, p, C, dx, _, rfl, upd_same, TC.cl, TC.n_ending, (Nat.lt_of_le_of_lt (pf (pf (pf (pf (pf (pf (Nat.le_refl 0))))))) (by decide)), ?_⟩
    rw [upd_upd, upd_upd, upd_upd]
    refine fin _ vp (fun b o hb e => ?_) (Dq.ins hp3 hvp) (upd_same.trans (by rfl))
    rw [upd_ne hb]
    exact s3 b o (by rw [upd_ne hb]; exact s02 b o e)
end
end K04
namespace K04
open PySem PySem.Spec PyProof.Rows L2
abbrev s_Policy_eq : Stmt := inClass (top 22) 13
abbrev s_Policy_fields : Stmt := inClass (top 22) 11
abbrev s_law_fields_of : Stmt := top 28
def fieldsK : List Str := ["limit", "tries", "pauses", "early", "lossy", "ending"]
def keysF : List Key := fieldsK.map Sum.inr
/-- a policy with its seven values -/
def IsPol (K : PySem.W.Frag) (C : Addr) (H : Hp) (v : V) (ds : List PyData) : Prop := ∃ (a dx : Addr) (vn v0 v1 v2 v3 v4 v5 : V), v = .ref a ∧ H a = some (.ins C dx (polF.zip [vn, v0, v1, v2, v3, v4, v5])) ∧ DqA K H [vn, v0, v1, v2, v3, v4, v5] ds
theorem IsPol.up {K : PySem.W.Frag} {C : Addr} {H H' : Hp} {v : V} {ds : List PyData} (s : Same H H') (h : IsPol K C H v ds) : IsPol K C H' v ds := by
  obtain ⟨a, dx, vn, v0, v1, v2, v3, v4, v5, rfl, ha, hd⟩ := h
  exact ⟨a, dx, vn, v0, v1, v2, v3, v4, v5, rfl, s _ _ ha, hd.up s⟩
def fieldsD : List PyData → List PyData
  | [_, dl, dt, dp, de, dy, dg] => [dl, dt, cond (notN de) .none dp, de, dy, dg]
  | _ => []
def polEq (ds es : List PyData) : Bool := PyData.eqv (ds.getD 0 .none) (es.getD 0 .none) && PyData.eqvAll (fieldsD ds) (fieldsD es)
def RowD (ds : List PyData) : Prop := ∀ d ∈ ds, SeqAt.shaped d = true ∧ d.hasDict = false
theorem RowD.fields {ds : List PyData} (h : RowD ds) : RowD (fieldsD ds) := by
  unfold fieldsD
  split
  · intro d hd
    simp only [List.mem_cons, List.not_mem_nil, or_false] at hd
    rename_i dn dl dt dp de dy dg
    rcases hd with rfl | rfl | rfl | rfl | rfl | rfl
    · exact h _ (by simp)
    · exact h _ (by simp)
    · cases notN de with
      | true => exact ⟨(show SeqAt.shaped PyData.none = true from by decide), rfl⟩
      | false => exact h _ (by simp)
    · exact h _ (by simp)
    · exact h _ (by simp)
    · exact h _ (by simp)
  · intro d hd
    cases hd
theorem RowD.nd : ∀ {ds : List PyData}, RowD ds → PyData.hasDictAll ds = false
  | [], _ => rfl
  | d :: ds, h => by
    have z := RowD.nd (ds := ds) fun e he => h e (List.mem_cons_of_mem _ he)
    simp [PyData.hasDictAll, (h d List.mem_cons_self).2, z]
structure PolT (K : PySem.W.Frag) (C : Addr) : Prop where
  ha : PySem.W.findIn K (.ref C) "__class__" = some (some (.builtin "object.__class__"))
  hn : PySem.W.specialIn K (.builtin "object.__class__") "__get__" = some (some (.builtin "getset_descriptor.__get__"))
  htk : PySem.W.takesIn K (.builtin "object.__class__") = some true
  hm : PySem.W.mroIn K C (.type "object") = some true
def spFields (K : PySem.W.Frag) (C : Addr) : Sp := fun vs H Q _ => ∃ (v : V) (ds : List PyData), vs = [v] ∧ IsPol K C H v ds ∧ ∀ q ws H', Same H H' → H q = none → H' q = some (.dK (keysF.zip ws)) → keysF.length = ws.length → DqA K H' ws (fieldsD ds) → Q (.ref q) H'
def spEqP (K : PySem.W.Frag) (C : Addr) : Sp := fun vs H Q _ => ∃ (v y : V) (ds : List PyData), vs = [v, y] ∧ IsPol K C H v ds ∧ RowD ds ∧
  ((∃ es, IsPol K C H y es ∧ RowD es ∧ ∀ H', Same H H' → Q (.bl (polEq ds es)) H') ∨ (∃ T, TyX K H y (.type T) ∧ PySem.W.kitOne K (.type T) (.ref C) = some false ∧ Q (.bl false) H))
def spFieldsOf (K : PySem.W.Frag) (C : Addr) : Sp := fun vs H Q _ => ∃ (v : V) (ds : List PyData), vs = [v] ∧ IsPol K C H v ds ∧ ∀ r xs, H r = none → DqA K H xs ds → Q (.ref r) (upd H r (.lst xs))
section
variable {P : Program} {w : World} {K : PySem.W.Frag} {mg : Str → Option Value} {base : Heap} {f g : Addr} {fd gd : FuncData} {CX : CXT}
theorem sc_fields : FnScope ["self", "pauses", "values"] ["self"] (defScope s_Policy_fields) := ⟨rfl, rfl, rfl, by decide +kernel, rfl, by decide +kernel, by decide +kernel⟩
theorem room65 {k : Nat} {A : Around} (r : Room k A) : A.units + 65 < cLine := by have := r.un; omega
theorem nodup_keysF : keysF.Nodup := by decide +kernel
theorem dqA7 {K : PySem.W.Frag} {H : Hp} {v0 v1 v2 v3 v4 v5 v6 : V} {ds : List PyData} (h : DqA K H [v0, v1, v2, v3, v4, v5, v6] ds) : ∃ d0 d1 d2 d3 d4 d5 d6, ds = [d0, d1, d2, d3, d4, d5, d6] ∧ Dq K H v0 d0 ∧ Dq K H v1 d1 ∧ Dq K H v2 d2 ∧ Dq K H v3 d3 ∧ Dq K H v4 d4 ∧ Dq K H v5 d5 ∧ Dq K H v6 d6 := by
  match h with
  | .cons h0 (.cons h1 (.cons h2 (.cons h3 (.cons h4 (.cons h5 (.cons h6 .nil)))))) => exact ⟨_, _, _, _, _, _, _, rfl, h0, h1, h2, h3, h4, h5, h6⟩
abbrev FnM (K : PySem.W.Frag) (x q : Str) (st : Stmt) (f : Addr) (fd : FuncData) : Prop := FunD K x q (defArgs st) (defBody st) (defScope st) [] [] f fd
theorem ok_fields (F : FnM K "fields" "Policy.fields" s_Policy_fields f fd) {C fA : Addr} (TC : PolC K C) (mF : mg "FIELDS" = some (.ref fA)) (hF : ∀ H, SqT K H fA (fieldsK.map V.str)) (md : mg "dict" = none) (mz : mg "zip" = none) :
    FnOk P w K mg base CX0 1 f fd ["self"] (spFields K C) := by
  refine F.ok sc_fields (fun vs H Q E h => ?_) (fun cdv A outer s H vs Q E hr h => ?_)
  · obtain ⟨_, _, rfl, _⟩ := h
    rfl
  · obtain ⟨v, ds, rfl, ⟨a, dx, vn, v0, v1, v2, v3, v4, v5, rfl, ha, hd⟩, q⟩ := h
    obtain ⟨dn, d0, d1, d2, d3, d4, d5, rfl, hn, h0, h1, h2, h3, h4, h5⟩ := dqA7 hd
    refine ⟨_, (pss_cons (ps_set (i := 1) sc_fields.nd rfl (Or.inl rfl) (pe_ifExp (pt_cmp (pc_notN (pe_fld (pv 0) rfl))) pe_non (pe_fld (pv 0) rfl)))
      (pss_cons (ps_set (i := 2) sc_fields.nd rfl (Or.inl rfl) (pe_tup (pa_cons (pe_fld (pv 0) rfl) (pa_cons (pe_fld (pv 0) rfl) (pa_cons (pv 1) (pa_cons (pe_fld (pv 0) rfl) (pa_cons (pe_fld (pv 0) rfl) (pa_cons (pe_fld (pv 0) rfl) pa_nil))))))))
      (pss_one (ps_ret (pe_dzip rfl (by rfl) md (by rfl) mz (pa_cons (pe_glob (v := .ref fA) rfl mF rfl) (pa_cons (pv 2) pa_nil))))))), ?_⟩
    have key : ∀ vp : V, Dq K H vp (cond (notN d3) .none d2) → tSeq (tAsg (tTup (tCons (tFld K (tVar 0) "own_limit") (tCons (tFld K (tVar 0) "own_tries") (tCons (tVar 1) (tCons (tFld K (tVar 0) "own_early") (tCons (tFld K (tVar 0) "own_lossy") (tCons (tFld K (tVar 0) "own_ending") tNil))))))) (gName 2)) (tRet (tDZip K (tCons (tC (.ref fA)) (tCons (tVar 2) tNil))))
        { nx := fun _ H' => Q .non H', rt := Q } [some (.ref a), some vp, none] H := fun vp hvp => by
      refine ⟨_, rfl, a, C, dx, _, v0, rfl, ha, TC.cl, TC.n_limit, rfl, _, rfl, a, C, dx, _, v1, rfl, ha, TC.cl, TC.n_tries, rfl, _, rfl, _, rfl, a, C, dx, _, v3, rfl, ha, TC.cl, TC.n_early, rfl, _, rfl, a, C, dx, _, v4, rfl, ha, TC.cl, TC.n_lossy, rfl, _, rfl, a, C, dx, _, v5, rfl, ha, TC.cl, TC.n_ending, rfl, (by show 6 ≤ sizeLine; decide), fun p hp => ?_⟩
      refine ⟨_, rfl, fA, p, keysF, [v0, v1, vp, v3, v4, v5], rfl, hF _, SqT.of upd_same, rfl, by decide, fun r hr' => ?_⟩
      have s1 : Same H (upd (upd H p (.tup [v0, v1, vp, v3, v4, v5])) r (.dK (mergeK [] (keysF.zip [v0, v1, vp, v3, v4, v5])))) := (Same.new' hp).trans (Same.new' hr')
      refine q r [v0, v1, vp, v3, v4, v5] _ s1 ((Same.new' hp).free hr') (upd_same.trans ?_) rfl ((DqA.cons h0 (.cons h1 (.cons hvp (.cons h3 (.cons h4 (.cons h5 .nil)))))).up s1)
      rw [mergeK_new (show ((([] : List (Key × V)) ++ keysF.zip [v0, v1, vp, v3, v4, v5]).map (·.1)).Nodup from nodup_keysF)]
      rfl
    refine ⟨_, rfl, a, C, dx, _, v3, rfl, ha, TC.cl, TC.n_early, rfl, _, rfl, ?_⟩
    rw [dq_isN h3]
    cases e3 : notN d3 with
    | true => exact iteT (key .non (by rw [e3]; exact .non))
    | false => exact iteF ⟨_, rfl, a, C, dx, _, v2, rfl, ha, TC.cl, TC.n_pauses, rfl, key v2 (by rw [e3]; exact h2)⟩
theorem sc_eq : FnScope ["self", "other"] ["self", "other"] (defScope s_Policy_eq) := ⟨rfl, rfl, rfl, by decide +kernel, rfl, by decide +kernel, by decide +kernel⟩
theorem ok_eq (F : FnM K "__eq__" "Policy.__eq__" s_Policy_eq f fd) {C fF : Addr} {eF : FuncData} (TC : PolC K C) (TT : PolT K C) (mC : mg "Policy" = some (.ref C)) (mi : mg "isinstance" = none) (MF : Meth K C "fields" fF) (FF : FnOk P w K mg base CX0 1 fF eF ["self"] (spFields K C)) (GF : FnM K "fields" "Policy.fields" s_Policy_fields fF eF) :
    FnOk P w K mg base CX0 2 f fd ["self", "other"] (spEqP K C) := by
  have bF : Binds K eF ["self"] [] := GF.bindsN fun _ _ _ _ _ _ us hl => match us, hl with | [_], _ => rfl
  refine F.ok sc_eq (fun vs H Q E h => ?_) (fun cdv A outer s H vs Q E hr h => ?_)
  · obtain ⟨_, _, _, rfl, _⟩ := h
    rfl
  · obtain ⟨v, y, ds, rfl, hv, rd, h⟩ := h
    have hu := hr.units
    have hu64 : (cxOf CX0 P w K mg base ["self", "other"] "Policy.__eq__" (defScope s_Policy_eq) f cdv A outer s H E).A.units + 64 < cLine := hr.units
    have hu65 : (cxOf CX0 P w K mg base ["self", "other"] "Policy.__eq__" (defScope s_Policy_eq) f cdv A outer s H E).A.units + 65 < cLine := room65 hr
    refine ⟨_, (pss_one (ps_ret (pe_and (pe_callB call_isi (by rfl) mi boot_isinstance (pa_cons (pv 1) (pa_cons (pe_glob (v := .ref C) rfl mC rfl) pa_nil))) (pe_and (pe_cmpR (op_eqD hu64) (pe_fld (pv 0) rfl) (pe_fld (pv 1) rfl) (nomark _)) (pe_one (pe_cmpR (op_eqDk hu65) (pe_meth0 (pv 0) TC.cl MF FF hr bF .nil pass0) (pe_meth0 (pv 1) TC.cl MF FF hr bF .nil pass0) (nomark _))))))), ?_⟩
    rcases h with ⟨es, hy, re, q⟩ | ⟨T, ty, hk, q⟩
    · obtain ⟨a, dx, vn, v0, v1, v2, v3, v4, v5, rfl, ha, hd⟩ := id hv
      obtain ⟨b, dy, wn, w0, w1, w2, w3, w4, w5, rfl, hb, he⟩ := id hy
      obtain ⟨dn, d0, d1, d2, d3, d4, d5, rfl, hn, _⟩ := dqA7 hd
      obtain ⟨en, e0, e1, e2, e3, e4, e5, rfl, hm, _⟩ := dqA7 he
      obtain ⟨sn, xn⟩ := rd dn (by simp)
      obtain ⟨sm, xm⟩ := re en (by simp)
      refine ⟨_, rfl, _, .ref C, .ref C, .ref C, true, rfl, .own C, .base (.ins hb TC.cl TT.ha TT.hn TT.htk TT.hm), by simp [PySem.W.kitOne], _, rfl, iteT ?_⟩
      refine ⟨_, rfl, a, C, dx, _, vn, rfl, ha, TC.cl, TC.n_name, rfl, _, rfl, b, C, dy, _, wn, rfl, hb, TC.cl, TC.n_name, rfl, dn, en, hn.dp xn, hm.dp xm, sn, sm, _, rfl, ?_⟩
      cases ee : PyData.eqv dn en with
      | false =>
        have z := q H (Same.refl H)
        unfold polEq at z
        rw [show PyData.eqv (([dn, d0, d1, d2, d3, d4, d5] : List PyData).getD 0 .none) (([en, e0, e1, e2, e3, e4, e5] : List PyData).getD 0 .none) = false from ee] at z
        exact iteF z
      | true =>
      refine iteT ⟨_, rfl, a, dx, _, rfl, ha, rfl, _, _, rfl, hv, fun q1 ws1 H1 s1 _ hq1 l1 x1 => ⟨_, rfl, b, dy, _, rfl, s1 _ _ hb, rfl, _, _, rfl, hy.up s1, fun q2 ws2 H2 s2 _ hq2 l2 x2 => ?_⟩⟩
      have rf1 := rd.fields
      have rf2 := re.fields
      refine ⟨q1, q2, keysF, ws1, ws2, _, _, rfl, rfl, s2 _ _ hq1, hq2, nodup_keysF, l1, l2, (x1.up s2).dp rf1.nd, x2.dp rf2.nd, fun d hd => (rf1 d hd).1, fun d hd => (rf2 d hd).1, ?_⟩
      have z := q _ (s1.trans s2)
      unfold polEq at z
      rw [show PyData.eqv (([dn, d0, d1, d2, d3, d4, d5] : List PyData).getD 0 .none) (([en, e0, e1, e2, e3, e4, e5] : List PyData).getD 0 .none) = true from ee] at z
      exact z
    · exact ⟨_, rfl, y, .ref C, _, _, false, rfl, .own C, ty, hk, _, rfl, iteF q⟩
structure Getters (P : Program) (w : World) (K : PySem.W.Frag) (mg : Str → Option Value) (base : Heap) (C : Addr) (pa ga : Nat → Addr) (ge : Nat → FuncData) : Prop where
  p_name : PropOf K C "name" (pa 0) (ga 0)
  f_name : FnOk P w K mg base CX0 1 (ga 0) (ge 0) ["self"] (getSp C "own_name")
  b_name : Binds K (ge 0) ["self"] []
  p_limit : PropOf K C "limit" (pa 1) (ga 1)
  f_limit : FnOk P w K mg base CX0 1 (ga 1) (ge 1) ["self"] (getSp C "own_limit")
  b_limit : Binds K (ge 1) ["self"] []
  p_tries : PropOf K C "tries" (pa 2) (ga 2)
  f_tries : FnOk P w K mg base CX0 1 (ga 2) (ge 2) ["self"] (getSp C "own_tries")
  b_tries : Binds K (ge 2) ["self"] []
  p_pauses : PropOf K C "pauses" (pa 3) (ga 3)
  f_pauses : FnOk P w K mg base CX0 1 (ga 3) (ge 3) ["self"] (getSp C "own_pauses")
  b_pauses : Binds K (ge 3) ["self"] []
  p_early : PropOf K C "early" (pa 4) (ga 4)
  f_early : FnOk P w K mg base CX0 1 (ga 4) (ge 4) ["self"] (getSp C "own_early")
  b_early : Binds K (ge 4) ["self"] []
  p_lossy : PropOf K C "lossy" (pa 5) (ga 5)
  f_lossy : FnOk P w K mg base CX0 1 (ga 5) (ge 5) ["self"] (getSp C "own_lossy")
  b_lossy : Binds K (ge 5) ["self"] []
  p_ending : PropOf K C "ending" (pa 6) (ga 6)
  f_ending : FnOk P w K mg base CX0 1 (ga 6) (ge 6) ["self"] (getSp C "own_ending")
  b_ending : Binds K (ge 6) ["self"] []
theorem sc_law_fields_of : FnScope ["_law_one"] ["_law_one"] (defScope s_law_fields_of) := ⟨rfl, rfl, rfl, by decide +kernel, rfl, by decide +kernel, by decide +kernel⟩
theorem ok_law_fields_of (F : FnP K "_law_fields_of" s_law_fields_of f fd) {C : Addr} (TC : PolC K C) {pa ga : Nat → Addr} {ge : Nat → FuncData} (Z : Getters P w K mg base C pa ga ge) : FnOk P w K mg base CX0 3 f fd ["_law_one"] (spFieldsOf K C) := by
  refine F.ok sc_law_fields_of (fun vs H Q E h => ?_) (fun cdv A outer s H vs Q E hr h => ?_)
  · obtain ⟨_, _, rfl, _⟩ := h
    rfl
  · obtain ⟨v, ds, rfl, ⟨a, dx, vn, v0, v1, v2, v3, v4, v5, rfl, ha, hd⟩, q⟩ := h
    refine ⟨_, (pss_one (ps_ret (pe_lst (pa_cons (pe_prop (pv 0) TC.cl Z.p_name Z.f_name hr Z.b_name .nil pass0 rfl) (pa_cons (pe_prop (pv 0) TC.cl Z.p_limit Z.f_limit hr Z.b_limit .nil pass0 rfl) (pa_cons (pe_prop (pv 0) TC.cl Z.p_tries Z.f_tries hr Z.b_tries .nil pass0 rfl) (pa_cons (pe_prop (pv 0) TC.cl Z.p_pauses Z.f_pauses hr Z.b_pauses .nil pass0 rfl) (pa_cons (pe_prop (pv 0) TC.cl Z.p_early Z.f_early hr Z.b_early .nil pass0 rfl) (pa_cons (pe_prop (pv 0) TC.cl Z.p_lossy Z.f_lossy hr Z.b_lossy .nil pass0 rfl) (pa_cons (pe_prop (pv 0) TC.cl Z.p_ending Z.f_ending hr Z.b_ending .nil pass0 rfl) pa_nil)))))))))), ?_⟩
    refine ⟨_, rfl, a, dx, _, rfl, ha, a, dx, _, vn, rfl, ha, rfl, _, rfl, a, dx, _, rfl, ha, a, dx, _, v0, rfl, ha, rfl, _, rfl, a, dx, _, rfl, ha, a, dx, _, v1, rfl, ha, rfl, _, rfl, a, dx, _, rfl, ha, a, dx, _, v2, rfl, ha, rfl, _, rfl, a, dx, _, rfl, ha, a, dx, _, v3, rfl, ha, rfl, _, rfl, a, dx, _, rfl, ha, a, dx, _, v4, rfl, ha, rfl, _, rfl, a, dx, _, rfl, ha, a, dx, _, v5, rfl, ha, rfl, (by show 7 ≤ sizeLine; decide), fun r hr' => q r _ hr' hd⟩
end
end K04
namespace K04
open PySem PySem.Spec PyProof.Rows L2
def psPol : List Str := ["self", "name", "limit", "tries", "pauses", "early", "lossy", "ending"]
def kwsP (ea : Addr) : List (Str × V) := [("tries", .int 1), ("pauses", .non), ("early", .non), ("lossy", .bl false), ("ending", .ref ea)]
section
variable {P : Program} {w : World} {K : PySem.W.Frag} {mg : Str → Option Value} {base : Heap} {f g : Addr} {fd gd : FuncData} {CX : CXT}
theorem kbA {ea : Addr} (GI : FnPol K f fd (kwsP ea)) : ∃ mv : List Value, KBn K fd psPol 3 ["tries", "pauses", "early", "lossy", "ending"] (fun us ws => us ++ ws) (fun vs zs => vs ++ zs) :=
  FunD.kbinds0 (ps := psPol) GI 3 ["tries", "pauses", "early", "lossy", "ending"] [] (fun us _ ws => us ++ ws) (by simp [kwsP]) (fun q h => by cases h) (fun r1 _ r2 => r1.append r2)
    (fun D doc pm an cdv ct us mv ws l1 l2 l3 => match us, mv, ws, l1, l2, l3 with | [_, _, _], [], [_, _, _, _, _], _, _, _ => rfl)
theorem kb0 {ea : Addr} (GI : FnPol K f fd (kwsP ea)) : ∃ mv : List Value, KBn K fd psPol 3 [] (fun us ws => us ++ mv) (fun vs zs => vs ++ [.int 1, .non, .non, .bl false, .ref ea]) :=
  FunD.kbinds0 (ps := psPol) GI 3 [] (kwsP ea) (fun us mv _ => us ++ mv) (by simp [kwsP]) (fun q h => h) (fun r1 r2 _ => r1.append r2)
    (fun D doc pm an cdv ct us mv ws l1 l2 l3 => match us, mv, ws, l1, l2, l3 with | [_, _, _], [_, _, _, _, _], [], _, _, _ => ⟨_, _, _, _, _, _, rfl, rfl, _, _, _, _, _, _, rfl, rfl, _, _, _, _, _, _, rfl, rfl, _, _, _, _, _, _, rfl, rfl, _, _, _, _, _, _, rfl, rfl, rfl⟩)
theorem kbT {ea : Addr} (GI : FnPol K f fd (kwsP ea)) : ∃ mv : List Value, KBn K fd psPol 3 ["tries"] (fun us ws => us ++ (ws ++ mv)) (fun vs zs => vs ++ (zs ++ [.non, .non, .bl false, .ref ea])) :=
  FunD.kbinds0 (ps := psPol) GI 3 ["tries"] [("pauses", .non), ("early", .non), ("lossy", .bl false), ("ending", .ref ea)] (fun us mv ws => us ++ (ws ++ mv)) (by simp [kwsP]) (fun q h => by simp only [kwsP]; exact List.mem_cons_of_mem _ h) (fun r1 r2 r3 => r1.append (r3.append r2))
    (fun D doc pm an cdv ct us mv ws l1 l2 l3 => match us, mv, ws, l1, l2, l3 with | [_, _, _], [_, _, _, _], [_], _, _, _ => ⟨_, _, _, _, _, _, rfl, rfl, _, _, _, _, _, _, rfl, rfl, _, _, _, _, _, _, rfl, rfl, _, _, _, _, _, _, rfl, rfl, rfl⟩)
theorem kbP {ea : Addr} (GI : FnPol K f fd (kwsP ea)) : ∃ mv : List Value, KBn K fd psPol 3 ["pauses"] (fun us ws => us ++ (mv.take 1 ++ (ws ++ mv.drop 1))) (fun vs zs => vs ++ ([.int 1] ++ (zs ++ [.non, .bl false, .ref ea]))) :=
  FunD.kbinds0 (ps := psPol) GI 3 ["pauses"] [("tries", .int 1), ("early", .non), ("lossy", .bl false), ("ending", .ref ea)] (fun us mv ws => us ++ (mv.take 1 ++ (ws ++ mv.drop 1))) (by simp [kwsP]) (fun q h => by simp only [kwsP, List.mem_cons, List.not_mem_nil, or_false] at h ⊢; exact h.imp id .inr)
    (fun r1 r2 r3 => match r2 with | .nil => r1.append (.append .nil (r3.append .nil)) | .cons a b => r1.append (.append (.cons a .nil) (r3.append b)))
    (fun D doc pm an cdv ct us mv ws l1 l2 l3 => match us, mv, ws, l1, l2, l3 with | [_, _, _], [_, _, _, _], [_], _, _, _ => ⟨_, _, _, _, _, _, rfl, rfl, _, _, _, _, _, _, rfl, rfl, _, _, _, _, _, _, rfl, rfl, _, _, _, _, _, _, rfl, rfl, rfl⟩)
end
end K04
namespace K04
open PySem PySem.Spec PyProof.Rows L2
/-! ### the plain law: rows and the policies made of them -/
def nmsL : List Str := ["a", "quick", "zzzzzzzz", "b"]
def EndOk (g : PyData) : Prop := g = .tuple [.str "go"] ∨ g = .tuple [.str "deadline"] ∨ ∃ j : Int, g = .tuple [.str "stop", .int j] ∧ 0 ≤ j ∧ j ≤ 20
def EarOk (t : Int) (ps : List Int) (e : PyData) : Prop := (e = .none ∧ (ps.length : Int) = t - 1) ∨ ∃ i : Int, e = .int i ∧ 1 ≤ i ∧ i ≤ 20 ∧ 2 ≤ t ∧ ps = []
structure RowP (n : Str) (l t : Int) (ps : List Int) (e : PyData) (y : Bool) (g : PyData) : Prop where
  nm : n ∈ nmsL
  l1 : 1 ≤ l
  l2 : l ≤ 20
  t1 : 1 ≤ t
  t2 : t ≤ 3
  hp : ∀ p ∈ ps, 0 ≤ p ∧ p ≤ 8
  ear : EarOk t ps e
  ed : EndOk g
def rowOf (n : Str) (l t : Int) (ps : List Int) (e : PyData) (y : Bool) (g : PyData) : List PyData := [.str n, .int l, .int t, .tuple (ps.map .int), e, .bool y, g]
def RowOk (ds : List PyData) : Prop := ∃ n l t ps e y g, ds = rowOf n l t ps e y g ∧ RowP n l t ps e y g
/-- parts that are small -/
def cmpB (d : PyData) : Bool := d.canLay0 && (!d.hasDict && (d.showable && (d.intsShort 13 && (decide (d.depth ≤ 3) && decide (d.weight ≤ 60)))))
structure Cmp (d : PyData) : Prop where
  lay : d.canLay0 = true
  nd : d.hasDict = false
  sh : d.showable = true
  si : d.intsShort 13 = true
  dp : d.depth ≤ 3
  wt : d.weight ≤ 60
theorem cmp_of {d : PyData} (h : cmpB d = true) : Cmp d := by
  unfold cmpB at h
  simp only [Bool.and_eq_true, Bool.not_eq_true', decide_eq_true_eq] at h
  obtain ⟨z1, z2, z3, z4, z5, z6⟩ := h
  exact ⟨z1, z2, z3, z4, z5, z6⟩
theorem cmp_bool (b : Bool) : Cmp (.bool b) := cmp_of (by cases b <;> decide +kernel)
theorem cmp_int {i : Int} (h0 : 0 ≤ i) (h1 : i ≤ 20) : Cmp (.int i) := by
  have z : ∀ i : Nat, i < 21 → cmpB (.int i) = true := by decide +kernel
  obtain ⟨k, rfl⟩ := Int.eq_ofNat_of_zero_le h0
  exact cmp_of (z k (by omega))
theorem cmp_str {n : Str} (h : n ∈ nmsL) : Cmp (.str n) := by
  have z : (nmsL.all fun n => cmpB (.str n)) = true := by decide +kernel
  exact cmp_of (List.all_eq_true.mp z n h)
theorem cmp_end {g : PyData} (h : EndOk g) : Cmp g := by
  rcases h with rfl | rfl | ⟨j, rfl, h0, h1⟩
  · exact cmp_of (by decide +kernel)
  · exact cmp_of (by decide +kernel)
  · have z : ∀ i : Nat, i < 21 → cmpB (.tuple [.str "stop", .int i]) = true := by decide +kernel
    obtain ⟨k, rfl⟩ := Int.eq_ofNat_of_zero_le h0
    exact cmp_of (z k (by omega))
theorem cmp_ps {ps : List Int} (h : ∀ p ∈ ps, 0 ≤ p ∧ p ≤ 8) (hl : ps.length ≤ 2) : Cmp (.tuple (ps.map .int)) := by
  match ps, h, hl with
  | [], _, _ => exact cmp_of (by decide +kernel)
  | [a], h, _ =>
    have z : ∀ i : Nat, i < 9 → cmpB (.tuple [.int i]) = true := by decide +kernel
    obtain ⟨h0, h1⟩ := h a (by simp)
    obtain ⟨k, rfl⟩ := Int.eq_ofNat_of_zero_le h0
    exact cmp_of (z k (by omega))
  | [a, b], h, _ =>
    have z : ∀ i : Nat, i < 9 → ∀ j : Nat, j < 9 → cmpB (.tuple [.int i, .int j]) = true := by decide +kernel
    obtain ⟨h0, h1⟩ := h a (by simp)
    obtain ⟨g0, g1⟩ := h b (by simp)
    obtain ⟨k, rfl⟩ := Int.eq_ofNat_of_zero_le h0
    obtain ⟨m, rfl⟩ := Int.eq_ofNat_of_zero_le g0
    exact cmp_of (z k (by omega) m (by omega))
theorem ear_len {t : Int} {ps : List Int} {e : PyData} (h : EarOk t ps e) (h2 : t ≤ 3) : ps.length ≤ 2 := by
  rcases h with ⟨_, h⟩ | ⟨_, _, _, _, _, rfl⟩
  · omega
  · simp
theorem cmp_ear {t : Int} {ps : List Int} {e : PyData} (h : EarOk t ps e) : Cmp e := by
  rcases h with ⟨rfl, _⟩ | ⟨i, rfl, h1, h2, _⟩
  · exact cmp_of (by decide +kernel)
  · exact cmp_int (by omega) h2
theorem RowOk.cmp {ds : List PyData} (h : RowOk ds) : ∀ d ∈ ds, Cmp d := by
  obtain ⟨n, l, t, ps, e, y, g, rfl, R⟩ := h
  intro d hd
  simp only [rowOf, List.mem_cons, List.not_mem_nil, or_false] at hd
  obtain ⟨nm, l1, l2, t1, t2, hp, ear, ed⟩ := R
  rcases hd with rfl | rfl | rfl | rfl | rfl | rfl | rfl
  · exact cmp_str nm
  · exact cmp_int (by omega) l2
  · exact cmp_int (by omega) (by omega)
  · exact cmp_ps hp (ear_len ear t2)
  · exact cmp_ear ear
  · exact cmp_bool y
  · exact cmp_end ed
theorem RowOk.rowD {ds : List PyData} (h : RowOk ds) : RowD ds := fun d hd => by
  have c := h.cmp d hd
  refine ⟨?_, c.nd⟩
  unfold SeqAt.shaped
  rw [c.lay, decide_eq_true (show d.depth ≤ 64 from Nat.le_trans c.dp (by decide))]
  rfl
/-- a list of small parts -/
structure Fine (d : PyData) : Prop where
  sh : d.showable = true
  nd : d.hasDict = false
  dp : d.depth ≤ 60
  ln : d.shown.length ≤ sizeLine
theorem fine_all : ∀ {ds : List PyData}, (∀ d ∈ ds, Cmp d) → PyData.canLayAll0 ds = true ∧ PyData.hasDictAll ds = false ∧ PyData.showableAll ds = true ∧ PyData.intsShortAll 13 ds = true ∧ PyData.depthAll ds ≤ 3 ∧ PyData.weightAll ds ≤ 61 * ds.length
  | [], _ => ⟨rfl, rfl, rfl, rfl, by decide, by decide⟩
  | d :: ds, h => by
    obtain ⟨a1, a2, a3, a4, a5, a6⟩ := fine_all (ds := ds) fun e he => h e (List.mem_cons_of_mem _ he)
    obtain ⟨c1, c2, c3, c4, c5, c6⟩ := h d List.mem_cons_self
    refine ⟨by simp [PyData.canLayAll0, c1, a1], by simp [PyData.hasDictAll, c2, a2], by simp [PyData.showableAll, c3, a3], by simp [PyData.intsShortAll, c4, a4], ?_, ?_⟩
    · simp only [PyData.depthAll]; omega
    · simp only [PyData.weightAll, List.length_cons]; omega
theorem fine_list {ds : List PyData} (h : ∀ d ∈ ds, Cmp d) (hl : ds.length ≤ 100) : Fine (.list ds) := by
  obtain ⟨a1, a2, a3, a4, a5, a6⟩ := fine_all h
  refine ⟨by simp [PyData.showable, a3], by simp [PyData.hasDict, a2], by simp only [PyData.depth]; omega, ?_⟩
  have z : (PyData.list ds).shown.length ≤ 15728653 := shown_le13 (by
    unfold PyData.layable0
    simp only [PyData.canLay0, PyData.depth, PyData.weight, a1, Bool.and_eq_true, decide_eq_true_eq, true_and]
    exact ⟨decide_eq_true (by omega), decide_eq_true (Nat.le_trans (show PyData.weightAll ds ≤ 10000 by omega) (by decide))⟩) (by simp [PyData.intsShort, a4])
  exact Nat.le_trans z (by decide)
mutual
theorem eqv_refl : ∀ d : PyData, d.hasDict = false → PyData.eqv d d = true
  | .none, _ => by simp [PyData.eqv]
  | .bool b, _ => by simp [PyData.eqv]
  | .int i, _ => by simp [PyData.eqv]
  | .str x, _ => by simp [PyData.eqv]
  | .list xs, h => by simp only [PyData.eqv]; exact eqvAll_refl xs (by simpa [PyData.hasDict] using h)
  | .tuple xs, h => by simp only [PyData.eqv]; exact eqvAll_refl xs (by simpa [PyData.hasDict] using h)
  | .dict _, h => by simp [PyData.hasDict] at h
theorem eqvAll_refl : ∀ ds : List PyData, PyData.hasDictAll ds = false → PyData.eqvAll ds ds = true
  | [], _ => by simp [PyData.eqvAll]
  | d :: ds, h => by
    simp [PyData.hasDictAll] at h
    simp [PyData.eqvAll, eqv_refl d h.1, eqvAll_refl ds h.2]
end
theorem row_eq {ds es : List PyData} (h : RowOk ds) (k : RowOk es) : polEq ds es = PyData.eqvAll ds es := by
  obtain ⟨n, l, t, ps, e, y, g, rfl, R⟩ := h
  obtain ⟨n', l', t', ps', e', y', g', rfl, R'⟩ := k
  unfold polEq rowOf fieldsD
  simp only [PyData.eqvAll, List.getD_cons_zero, Bool.and_true]
  rcases R.ear with ⟨rfl, hp⟩ | ⟨i, rfl, hi1, hi2, ht, rfl⟩
  · rcases R'.ear with ⟨rfl, hp'⟩ | ⟨j, rfl, hj1, hj2, ht', rfl⟩
    · simp [notN]
    · simp [notN, PyData.eqv]
  · rcases R'.ear with ⟨rfl, hp'⟩ | ⟨j, rfl, hj1, hj2, ht', rfl⟩
    · simp [notN, PyData.eqv]
    · simp [notN, PyData.eqv, PyData.eqvAll]
theorem row_self {ds : List PyData} (h : RowOk ds) : polEq ds ds = true := by
  rw [row_eq h h]
  exact eqvAll_refl ds h.rowD.nd
def delay (e : PyData) (ps : List Int) : PyData := cond (notN e) .none (.tuple (ps.map .int))
theorem end_ok {g : PyData} (h : EndOk g) : isEnding g = true := by
  rcases h with rfl | rfl | ⟨j, rfl, h0, h1⟩
  · decide +kernel
  · decide +kernel
  · simp [isEnding, isBetw, h0, h1]
theorem ps_ok {ps : List Int} {t : Int} (h : ∀ p ∈ ps, 0 ≤ p ∧ p ≤ 8) (hl : (ps.length : Int) = t - 1) : arePauses (.tuple (ps.map .int)) t = true := by
  simp only [arePauses, List.length_map, Bool.and_eq_true, decide_eq_true_eq, List.all_eq_true, List.mem_map]
  refine ⟨hl, ?_⟩
  rintro _ ⟨p, hp, rfl⟩
  obtain ⟨h0, h1⟩ := h p hp
  simp [isBetw, h0, h1]
theorem row_wf {n : Str} {l t : Int} {ps : List Int} {e : PyData} {y : Bool} {g : PyData} (R : RowP n l t ps e y g) : wrongField (.int l) (.int t) (delay e ps) e (.bool y) g = none ∧ ownPauses t (delay e ps) e = .tuple (ps.map .int) := by
  obtain ⟨nm, l1, l2, t1, t2, hp, ear, ed⟩ := R
  have hg := end_ok ed
  rcases ear with ⟨rfl, hl⟩ | ⟨i, rfl, h1, h2, ht, rfl⟩
  · have hq := ps_ok hp hl
    refine ⟨?_, rfl⟩
    simp only [wrongField, delay, notN, cond_false, isBetw, l1, l2, t1, t2, decide_true, Bool.and_true, cond_true, intOf, hq, hg, isBoolD, Bool.not_true, Bool.false_or, Bool.and_false, Bool.false_and]
  · refine ⟨?_, rfl⟩
    have h3 : ¬ t < 2 := by omega
    simp only [wrongField, delay, notN, cond_false, isBetw, l1, l2, t1, t2, decide_true, Bool.and_true, cond_true, intOf, ltTwo, h1, h2, h3, decide_false, hg, isBoolD, Bool.not_true, Bool.false_or, Bool.and_false, Bool.false_and]
theorem nm_ok {n : Str} (h : n ∈ nmsL) : isName (.str n) = true := by
  have z : (nmsL.all fun n => isName (.str n)) = true := by decide +kernel
  exact List.all_eq_true.mp z n h
end K04
namespace K04
open PySem PySem.Spec PyProof.Rows L2 StX
abbrev s_Policy_changed : Stmt := inClass (top 22) 12
/-! ### Policy.changed(**fields) -/
def firstBad (ks : List Str) : Option Str := ks.find? fun k => !decide (k ∈ fieldsK)
def chF (ks : List Str) (es : List PyData) (k : Str) (d : PyData) : PyData := ((ks.zip es).lookup k).getD d
def chP (ks : List Str) (es : List PyData) (dp de : PyData) : PyData := chF ks es "pauses" (cond (ks.contains "tries" || ks.contains "early") .none (cond (notN de) .none dp))
def chWf (ks : List Str) (es : List PyData) (dl dt dp de dy dg : PyData) : Option Str := wrongField (chF ks es "limit" dl) (chF ks es "tries" dt) (chP ks es dp de) (chF ks es "early" de) (chF ks es "lossy" dy) (chF ks es "ending" dg)
def chRow (ks : List Str) (es : List PyData) (dn dl dt dp de dy dg : PyData) : List PyData :=
  [dn, chF ks es "limit" dl, chF ks es "tries" dt, ownPauses (intOf (chF ks es "tries" dt)) (chP ks es dp de) (chF ks es "early" de), chF ks es "early" de, chF ks es "lossy" dy, chF ks es "ending" dg]
def spCh (K : PySem.W.Frag) (C CP : Addr) (ks : List Str) : V → List V → Hp → VK → XK → Prop := fun v vs H Q E => ∃ (dn dl dt dp de dy dg : PyData) (es : List PyData), IsPol K C H v [dn, dl, dt, dp, de, dy, dg] ∧ isName dn = true ∧ DqA K H vs es ∧
  (∀ b, firstBad ks = some b → ∀ H' x, Same H H' → H' x = none → E (.ref CP) (some x) (upd H' x (.xd [("field", .str b)]))) ∧
  (firstBad ks = none → ∀ wf, chWf ks es dl dt dp de dy dg = some wf → ∀ H' x, Same H H' → H' x = none → E (.ref CP) (some x) (upd H' x (.xd [("field", .str wf)]))) ∧
  (firstBad ks = none → chWf ks es dl dt dp de dy dg = none → ∀ v' H', Same H H' → IsPol K C H' v' (chRow ks es dn dl dt dp de dy dg) → Q v' H')
theorem valV_merge : ∀ (more kvs : List (Key × V)) (k : Key), (more.map (·.1)).Nodup → valV (mergeK kvs more) k = (match valV more k with | some v => some v | none => valV kvs k)
  | [], _, _, _ => rfl
  | p :: r, kvs, k, h => by
    obtain ⟨h1, h2⟩ := List.nodup_cons.mp (show (p.1 :: r.map (·.1)).Nodup from h)
    show valV (mergeK (putK kvs p.1 p.2) r) k = _
    rw [valV_merge r _ k h2, valV_put]
    by_cases e : p.1 = k
    · subst e
      have z : valV r p.1 = none := by
        cases q : valV r p.1 with
        | none => rfl
        | some v =>
          have y := valV_any p.1 r
          rw [q] at y
          obtain ⟨kv, hk, he⟩ := List.any_eq_true.mp y
          exact absurd (List.mem_map.mpr ⟨kv, hk, of_decide_eq_true he⟩) h1
      rw [z, valV_pos rfl, if_pos rfl]
    · rw [valV_neg e, if_neg (fun z => e z.symm)]
theorem kw_at {K : PySem.W.Frag} {H : Hp} (k : Str) : ∀ {ks : List Str} {vs : List V} {es : List PyData}, DqA K H vs es → (valV ((inrs ks).zip vs) (Sum.inr k) = none ∧ (ks.zip es).lookup k = none) ∨ ∃ v d, valV ((inrs ks).zip vs) (Sum.inr k) = some v ∧ (ks.zip es).lookup k = some d ∧ Dq K H v d
  | [], _, _, _ => .inl ⟨rfl, rfl⟩
  | _ :: _, _, _, .nil => .inl ⟨rfl, rfl⟩
  | x :: ks, _, _, .cons (v := v) (vs := vs) (d := d) (ds := es) h r => by
    by_cases e : x = k
    · subst e
      refine .inr ⟨v, d, valV_pos rfl, ?_, h⟩
      show List.lookup x ((x, d) :: ks.zip es) = some d
      simp [List.lookup]
    · have z1 : valV ((inrs (x :: ks)).zip (v :: vs)) (Sum.inr k) = valV ((inrs ks).zip vs) (Sum.inr k) := valV_neg (p := ((Sum.inr x : Key), v)) (fun q => e (Sum.inr.inj q))
      have z2 : ((x :: ks).zip (d :: es)).lookup k = (ks.zip es).lookup k := by
        show List.lookup k ((x, d) :: ks.zip es) = _
        have q : (k == x) = false := by simpa using fun z => e z.symm
        simp [List.lookup, q]
      rw [z1, z2]
      exact kw_at k r
theorem kn_at {K : PySem.W.Frag} {H : Hp} {ks : List Str} {vs : List V} {es : List PyData} {kvs : List (Key × V)} {k : Str} {w : V} {d : PyData} (nd : ks.Nodup) (hl : vs.length = ks.length) (hv : DqA K H vs es) (h0 : valV kvs (Sum.inr k) = some w) (hw : Dq K H w d) :
    ∃ y, valV (mergeK kvs ((inrs ks).zip vs)) (Sum.inr k) = some y ∧ Dq K H y (chF ks es k d) := by
  have em : ((inrs ks).zip vs).map (·.1) = inrs ks := by
    rw [List.map_fst_zip]
    simp [inrs, hl]
  rw [valV_merge _ _ _ (by rw [em]; exact inrs_nodup nd)]
  unfold chF
  rcases kw_at (K := K) (H := H) k (ks := ks) hv with ⟨z1, z2⟩ | ⟨v, d', z1, z2, hd⟩
  · rw [z1, z2]
    exact ⟨w, h0, hw⟩
  · rw [z1, z2]
    exact ⟨v, rfl, hd⟩
theorem bad_at : ∀ {ks : List Str} {i : Nat} {b : Str}, (∀ j k, j < i → ks[j]? = some k → k ∈ fieldsK) → ks[i]? = some b → b ∉ fieldsK → firstBad ks = some b
  | [], i, b, _, e, _ => by simp at e
  | x :: ks, 0, b, _, e, hb => by
    simp at e
    subst e
    simp [firstBad, hb]
  | x :: ks, i + 1, b, h, e, hb => by
    have hx : x ∈ fieldsK := h 0 x (Nat.succ_pos _) rfl
    have z := bad_at (ks := ks) (i := i) (b := b) (fun j k hj hk => h (j + 1) k (Nat.succ_lt_succ hj) (by simpa using hk)) (by simpa using e) hb
    unfold firstBad at z ⊢
    rw [List.find?_cons_of_neg (by simp [hx])]
    exact z
theorem bad_none {ks : List Str} (h : ∀ j k, j < ks.length → ks[j]? = some k → k ∈ fieldsK) : firstBad ks = none := by
  unfold firstBad
  rw [List.find?_eq_none]
  intro x hx
  obtain ⟨j, hj, rfl⟩ := List.mem_iff_getElem.mp hx
  simp [h j ks[j] hj (by simp [hj])]
theorem contains_val {ks : List Str} {vs : List V} (hl : vs.length = ks.length) (k : Str) : (valV ((inrs ks).zip vs) (Sum.inr k)).isSome = ks.contains k := by
  rw [← valV_any]
  induction ks generalizing vs with
  | nil => rfl
  | cons x ks ih =>
    match vs, hl with
    | v :: vs, hl =>
      have z := ih (vs := vs) (by simpa using hl)
      show (decide ((Sum.inr x : Key) = Sum.inr k) || ((inrs ks).zip vs).any fun kv => decide (kv.1 = Sum.inr k)) = _
      rw [z, List.contains_cons]
      congr 1
      by_cases e : x = k
      · subst e; simp
      · have q : (k == x) = false := by simpa using fun z => e z.symm
        rw [q]
        exact decide_eq_false fun z => e (Sum.inr.inj z)
theorem inV_fields (k : Str) : inV (.str k) (fieldsK.map V.str) = decide (k ∈ fieldsK) := by
  have z : ∀ l : List Str, inV (.str k) (l.map V.str) = decide (k ∈ l) := by
    intro l
    induction l with
    | nil => rfl
    | cons x l ih =>
      show ((x == k) || inV (.str k) (l.map V.str)) = _
      rw [ih]
      by_cases e : x = k
      · subst e; simp
      · have q : (x == k) = false := by simpa using e
        have q2 : ¬ k = x := fun z => e z.symm
        simp [q, q2]
  exact z fieldsK
section
variable {P : Program} {w : World} {K : PySem.W.Frag} {mg : Str → Option Value} {base : Heap} {f g : Addr} {fd gd : FuncData} {CX : CXT}
/-- the pauses are given anew where tries or early are -/
def tPz : TS := fun D σ H => ∃ p q kvs more, σ[1]? = some (some (V.ref p)) ∧ σ[2]? = some (some (V.ref q)) ∧ H p = some (.dK more) ∧ H q = some (.dK kvs) ∧ kvs.length < sizeLine ∧
  ∀ H', H' q = some (.dK (cond ((valV more (Sum.inr "tries")).isSome || (valV more (Sum.inr "early")).isSome) (putK kvs (Sum.inr "pauses") .non) kvs)) → (∀ b, b ≠ q → H' b = H b) → D.nx σ H'
theorem pz_run {D : Ends} {σ : L2.St} {H : Hp} (h : tPz D σ H) : tIfS (tOr (tB (tDIn (tC (.str "tries")) (tVar 1))) (tB (tDIn (tC (.str "early")) (tVar 1)))) (sDPut (tVar 2) (tC (.str "pauses")) (tC .non)) tNext D σ H := by
  obtain ⟨p, q, kvs, more, e1, e2, hp, hq, hl, k⟩ := h
  have put : ((valV more (Sum.inr "tries")).isSome || (valV more (Sum.inr "early")).isSome) = true → sDPut (tVar 2) (tC (.str "pauses")) (tC .non) D σ H := fun e => by
    refine ⟨_, e2, q, _, rfl, DPut.k (k := Sum.inr "pauses") hq hl, k _ ?_ fun b hb => upd_ne hb⟩
    rw [e]
    exact upd_same
  refine ⟨_, e1, p, _, rfl, DGet.k (k := Sum.inr "tries") hp, _, rfl, iteB (fun e => ?_) (fun e => ?_)⟩
  · exact put (by rw [e]; rfl)
  · refine ⟨_, e1, p, _, rfl, DGet.k (k := Sum.inr "early") hp, _, rfl, iteB (fun e' => ?_) (fun e' => ?_)⟩
    · exact put (by rw [e']; simp)
    · refine k _ ?_ fun b hb => rfl
      rw [e, e']
      exact hq
mutual
theorem Dq.dk {K : PySem.W.Frag} {H : Hp} {p : Addr} {kvs : List (Key × V)} {o : HO} (hp : H p = some (.dK kvs)) (hne : kvs ≠ []) : ∀ {v : V} {d : PyData}, Dq K H v d → Dq K (upd H p o) v d
  | _, _, .non => .non
  | _, _, .bl b => .bl b
  | _, _, .int i => .int i
  | _, _, .str x h => .str x h
  | _, _, .lst h a => .lst (by
      rcases h with (h | ⟨ob, h⟩) | h
      · exact .inl (.inl (by rw [upd_ne (ne_of h hp (fun z => nomatch z))]; exact h))
      · exact .inl (.inr ⟨ob, by rw [upd_ne (ne_of h hp (fun z => nomatch z))]; exact h⟩)
      · exact .inr h) (DqA.dk hp hne a)
  | _, _, .tup h a => .tup (by
      rcases h with (h | ⟨ob, h⟩) | h
      · exact .inl (.inl (by rw [upd_ne (ne_of h hp (fun z => nomatch z))]; exact h))
      · exact .inl (.inr ⟨ob, by rw [upd_ne (ne_of h hp (fun z => nomatch z))]; exact h⟩)
      · exact .inr h) (DqA.dk hp hne a)
  | _, _, .dct h => .dct (by rw [upd_ne (ne_of h hp (fun z => hne (by cases z; rfl)))]; exact h)
theorem DqA.dk {K : PySem.W.Frag} {H : Hp} {p : Addr} {kvs : List (Key × V)} {o : HO} (hp : H p = some (.dK kvs)) (hne : kvs ≠ []) : ∀ {vs : List V} {ds : List PyData}, DqA K H vs ds → DqA K (upd H p o) vs ds
  | _, _, .nil => .nil
  | _, _, .cons h r => .cons (Dq.dk hp hne h) (DqA.dk hp hne r)
end
theorem PS.imp' {X : Cx} {s : Stmt} {t t' : TS} (h : PS X s t) (f : ∀ D σ H, t' D σ H → t D σ H) : PS X s t' := ⟨fun pins sh σ H D I q => h.run pins sh σ H D I (f D σ H q)⟩
theorem madeX {C CN CP : Addr} {H : Hp} {Q : VK} {E : XK} {x dx : Addr} {vn v0 v1 v2 v3 v4 v5 : V} {dn d0 d1 d2 d3 d4 d5 : PyData} (hx : H x = none) (hdx : H dx = none) (hn : Dq K H vn dn) (h0 : Dq K H v0 d0) (h1 : Dq K H v1 d1) (h2 : Dq K H v2 d2) (h3 : Dq K H v3 d3) (h4 : Dq K H v4 d4) (h5 : Dq K H v5 d5)
    (en : isName dn = true) (qE : ∀ wf, wrongField d0 d1 d2 d3 d4 d5 = some wf → ∀ H' d, Same H H' → H' d = none → E (.ref CP) (some d) (upd H' d (.xd [("field", .str wf)])))
    (q : wrongField d0 d1 d2 d3 d4 d5 = none → ∀ H', Same H H' → IsPol K C H' (.ref x) [dn, d0, d1, ownPauses (intOf d1) d2 d3, d3, d4, d5] → Q (.ref x) H') :
    spPolI K C CN CP [.ref x, vn, v0, v1, v2, v3, v4, v5] (upd (upd H dx (.own x)) x (.ins C dx [])) (fun v H3 => v = .non ∧ Q (.ref x) H3) E := by
  have s1 : Same H (upd (upd H dx (.own x)) x (.ins C dx [])) := fun b o e => by
    rw [upd_ne (ne_of_none e hx), upd_ne (ne_of_none e hdx)]
    exact e
  refine ⟨x, dx, vn, v0, v1, v2, v3, v4, v5, dn, d0, d1, d2, d3, d4, d5, rfl, upd_same, hn.up s1, h0.up s1, h1.up s1, h2.up s1, h3.up s1, h4.up s1, h5.up s1, fun z => ?_, fun _ wf z H' d s hd => qE wf z H' d (s1.trans s) hd, fun _ ew H' vp k hvp hp => ⟨rfl, ?_⟩⟩
  · rw [en] at z; cases z
  · have s2 : Same H H' := fun b o e => k b o (ne_of_none e hx) (s1 b o e)
    exact q ew H' s2 ⟨x, dx, vn, v0, v1, vp, v3, v4, v5, rfl, hp, .cons (hn.up s2) (.cons (h0.up s2) (.cons (h1.up s2) (.cons hvp (.cons (h3.up s2) (.cons (h4.up s2) (.cons (h5.up s2) .nil))))))⟩
theorem sc_changed : FnScope ["self", "fields", "known", "word"] ["self", "fields"] (defScope s_Policy_changed) := ⟨rfl, rfl, rfl, by decide +kernel, rfl, by decide +kernel, by decide +kernel⟩
theorem ok_changed {ks : List Str} (F : FnM K "changed" "Policy.changed" s_Policy_changed f fd) {C CN CP fP fA fF fI ea : Addr} {eF eI : FuncData} (TC : PolC K C) (MF : Meth K C "fields" fF) (FF : FnOk P w K mg base CX0 1 fF eF ["self"] (spFields K C)) (GF : FnM K "fields" "Policy.fields" s_Policy_fields fF eF)
    (mF : mg "FIELDS" = some (.ref fA)) (hF : ∀ H, SqT K H fA (fieldsK.map V.str)) (TP : PySem.MCX.XTxt P K mg "InvalidPolicy" "field" CP fP) (GI : FnPol K fI eI (kwsP ea)) (MI : Mk K C fI) (mP : mg "Policy" = some (.ref C))
    (FI : FnOk P w K mg base (L2.CX P w) 5 fI eI psPol (spPolI K C CN CP)) (hks : ks.Nodup) (hkl : ks.length ≤ 100)
    (hb : ∀ (kV doc pm : Value) (an : Option Addr) (cdv ct : Value) (u : Value) (us : List Value), us.length = ks.length → bindArgs (PySem.W.fnOf "changed" "Policy.changed" (defArgs s_Policy_changed) (defBody s_Policy_changed) (defScope s_Policy_changed) .none kV doc pm an cdv ct) ⟨[u], ks.zip us⟩ = bindKw "fields" "self" u (ks.zip us)) :
    FnKw P w K mg base (L2.CX P w) 7 f ks (spCh K C CP ks) := by
  have bF : Binds K eF ["self"] [] := GF.bindsN fun _ _ _ _ _ _ us hl => match us, hl with | [_], _ => rfl
  obtain ⟨mv, kb⟩ := kbA GI
  refine fn_kw F sc_changed cxUp hks (Nat.le_trans hkl (by decide)) (fun dV kV doc pm an cdv ct u us hD hl => ?_) (fun cdv A outer s H0 v vs Q E p hr hp hl h => ?_)
  · rcases hD with ⟨_, rfl⟩ | ⟨e, _⟩
    · exact hb kV doc pm an cdv ct u us hl
    · exact absurd rfl e
  · obtain ⟨dn, dl, dt, dp, de, dy, dg, es, hpol, en, hes, qB, qE, qY⟩ := h
    have hr1 := hr.mono (by decide : 1 ≤ 6)
    refine ⟨_, (pss_cons (ps_set (i := 2) sc_changed.nd rfl (Or.inl rfl) (pe_meth0 (pv 0) TC.cl MF FF hr1 bF .nil pass0))
      (pss_cons (PS.imp' (t' := tPz) (ps_if (PW.pt (pw_or (pt_cmp (pc_din (hu_of hr) pe_str (pv 1))) (pw_or1 (pt_cmp (pc_din (hu_of hr) pe_str (pv 1)))))) (pss_one (ps_dput (hu_of hr) (pv 2) pe_str pe_non rfl)) pss_nil) (fun D σ H h => pz_run h))
      (pss_cons (ps_lock (ps_for (passes_of rfl) rfl (pi_keys (pv 1)) (pg_name (i := 3) sc_changed.nd rfl (Or.inl rfl))
        (pss_one (ps_if (pt_cmpR op_notIn_seq (pv 3) (pe_glob (v := .ref fA) rfl mF rfl) (by rfl)) (pss_one (ps_raiseX rfl TP hr (takes_of rfl rfl rfl rfl) (pa_cons (pv 3) pa_nil))) pss_nil))))
      (pss_cons (ps_expr (pe_dupd (pv 2) (pv 1) ⟨rfl, rfl, rfl, rfl⟩))
      (pss_one (ps_ret (pe_makeKS MI FI hr rfl mP kb (fun σ => passAt (takes_of rfl rfl rfl rfl) σ) (pa_cons (pe_fld (pv 0) rfl) (pa_cons (pe_dget (hu_of hr) (pv 2) pe_str (fun _ _ => rfl)) pa_nil))
        (pk_cons (pe_dget (hu_of hr) (pv 2) pe_str (fun _ _ => rfl)) (pk_cons (pe_dget (hu_of hr) (pv 2) pe_str (fun _ _ => rfl)) (pk_cons (pe_dget (hu_of hr) (pv 2) pe_str (fun _ _ => rfl)) (pk_cons (pe_dget (hu_of hr) (pv 2) pe_str (fun _ _ => rfl)) (pk_cons (pe_dget (hu_of hr) (pv 2) pe_str (fun _ _ => rfl)) pk_nil)))))))))))), ?_⟩
    obtain ⟨a, dx, vn, v0, v1, v2, v3, v4, v5, rfl, ha, hd⟩ := id hpol
    have s0 : Same H0 (upd H0 p (.dK ((inrs ks).zip vs))) := Same.new' hp
    refine ⟨_, rfl, a, dx, _, rfl, s0 _ _ ha, rfl, _, _, rfl, hpol.up s0, fun q ws H1 s1 nq hq l1 x1 => ?_⟩
    have hq0 : upd H0 p (.dK ((inrs ks).zip vs)) p = some (.dK ((inrs ks).zip vs)) := upd_same
    have hp1 := s1 _ _ hq0
    have nq0 : H0 q = none := s0.free nq
    have hqp : q ≠ p := fun z => by rw [z, hq0] at nq; cases nq
    obtain ⟨w0, w1, w2, w3, w4, w5, rfl, y0, y1, y2, y3, y4, y5⟩ : ∃ w0 w1 w2 w3 w4 w5, ws = [w0, w1, w2, w3, w4, w5] ∧ Dq K H1 w0 dl ∧ Dq K H1 w1 dt ∧ Dq K H1 w2 (cond (notN de) .none dp) ∧ Dq K H1 w3 de ∧ Dq K H1 w4 dy ∧ Dq K H1 w5 dg := by
      match x1 with
      | .cons h0 (.cons h1 (.cons h2 (.cons h3 (.cons h4 (.cons h5 .nil))))) => exact ⟨_, _, _, _, _, _, rfl, h0, h1, h2, h3, h4, h5⟩
    refine ⟨p, q, _, _, rfl, rfl, hp1, hq, (by show 6 < sizeLine; decide), fun H2 hq2 k2 => ?_⟩
    rw [contains_val hl, contains_val hl] at hq2
    have s02 : Same H0 H2 := fun b o e => by
      rw [k2 b (ne_of_none e nq0)]
      exact s1 _ _ (s0 _ _ e)
    have hp2 : H2 p = some (.dK ((inrs ks).zip vs)) := (k2 p (Ne.symm hqp)).trans hp1
    refine ⟨p, _, hp2, trivial, fun od => ⟨_, rfl, p, od, rfl, .inl ⟨_, upd_same, ?_⟩⟩⟩
    refine for_it walk_keys (fun i σ Hc => Hc = upd H2 p (.frz od (.dK ((inrs ks).zip vs))) ∧ (∃ o, σ = [some (.ref a), some (.ref p), some (.ref q), o]) ∧ ∀ j k, j < i → ks[j]? = some k → k ∈ fieldsK) ⟨rfl, ⟨_, rfl⟩, fun j k hj => absurd hj (Nat.not_lt_zero _)⟩ (fun i σ Hc _ h => by rw [h.1]; exact upd_same) ?_ ?_
    · rintro i x σ Hc Hc' hi ⟨rfl, ⟨o, rfl⟩, hg⟩ ⟨rfl, k, y, hk, rfl⟩
      obtain ⟨kk, hkk, rfl⟩ : ∃ kk, ks[i]? = some kk ∧ k = Sum.inr kk := by
        have z : ((inrs ks).zip vs)[i]? = some (k, y) := hk
        rw [List.getElem?_zip_eq_some] at z
        obtain ⟨z1, _⟩ := z
        unfold inrs at z1
        rw [List.getElem?_map] at z1
        cases e : ks[i]? with
        | none => rw [e] at z1; cases z1
        | some kk => rw [e] at z1; exact ⟨kk, rfl, (Option.some.inj z1).symm⟩
      refine ⟨_, rfl, fA, _, rfl, .inr (hF _), rfl, rfl, _, rfl, ?_⟩
      show if (!inV (.str kk) (fieldsK.map V.str)) = true then _ else _
      rw [inV_fields]
      by_cases hm : kk ∈ fieldsK
      · refine iteNY hm ⟨rfl, ⟨_, rfl⟩, fun j k hj e => ?_⟩
        rcases Nat.lt_or_eq_of_le (Nat.le_of_lt_succ hj) with h' | h'
        · exact hg j k h' e
        · rw [h', hkk] at e
          cases e
          exact hm
      · refine iteNN hm ⟨_, rfl, _, rfl, fun d hd => ?_⟩
        refine qB kk (bad_at hg hkk hm) _ d (fun b o e => ?_) hd
        rw [upd_ne (ne_of_none e hp)]
        exact s02 b o e
    · rintro σ Hc ⟨rfl, ⟨o, rfl⟩, hg⟩
      refine ⟨upd_same, ?_⟩
      have lz : ((inrs ks).zip vs).length = ks.length := by
        rw [List.length_zip]
        simp [inrs, hl]
      have fb : firstBad ks = none := bad_none fun j k hj e => hg j k (by rw [lz]; exact hj) e
      rw [upd_upd]
      have eH : upd H2 p (.dK ((inrs ks).zip vs)) = H2 := by
        funext b
        by_cases hb : b = p
        · rw [hb, upd_same, hp2]
        · rw [upd_ne hb]
      rw [eH]
      obtain ⟨c, ec⟩ : ∃ c, (ks.contains "tries" || ks.contains "early") = c := ⟨_, rfl⟩
      rw [ec] at hq2
      have hz : (cond c (putK (keysF.zip [w0, w1, w2, w3, w4, w5]) (Sum.inr "pauses") .non) (keysF.zip [w0, w1, w2, w3, w4, w5])).length + ((inrs ks).zip vs).length ≤ sizeLine := by
        have z2 : 1000 ≤ sizeLine := by decide
        have z3 : (keysF.zip [w0, w1, w2, w3, w4, w5]).length = 6 := rfl
        have z4 := length_putK (keysF.zip [w0, w1, w2, w3, w4, w5]) (Sum.inr "pauses") V.non
        cases c with
        | true => rw [cond_true]; omega
        | false => rw [cond_false]; omega
      refine ⟨_, rfl, q, rfl, .inl ⟨_, .inl hq2⟩, _, rfl, p, _, _, rfl, hq2, hp2, hqp, hz, ?_⟩
      have s03 : Same H0 (upd H2 q (.dK (mergeK (cond c (putK (keysF.zip [w0, w1, w2, w3, w4, w5]) (Sum.inr "pauses") .non) (keysF.zip [w0, w1, w2, w3, w4, w5])) ((inrs ks).zip vs)))) := s02.mut nq0
      have e3 : ∀ o, upd H2 q o = upd H1 q o := fun o => by
        funext b
        by_cases hb : b = q
        · rw [hb, upd_same, upd_same]
        · rw [upd_ne hb, upd_ne hb, k2 b hb]
      have up1 : ∀ {v : V} {d : PyData} (o : HO), Dq K H1 v d → Dq K (upd H2 q o) v d := fun o h => by rw [e3]; exact Dq.dk hq (fun z => nomatch z) h
      have hq3 : upd H2 q (.dK (mergeK (cond c (putK (keysF.zip [w0, w1, w2, w3, w4, w5]) (Sum.inr "pauses") .non) (keysF.zip [w0, w1, w2, w3, w4, w5])) ((inrs ks).zip vs))) q = _ := upd_same
      obtain ⟨n0, f0, g0⟩ := kn_at (kvs := cond c (putK (keysF.zip [w0, w1, w2, w3, w4, w5]) (Sum.inr "pauses") .non) (keysF.zip [w0, w1, w2, w3, w4, w5])) (k := "limit") hks hl (hes.up s03) (by cases c <;> rfl) (up1 _ y0)
      obtain ⟨n1, f1, g1⟩ := kn_at (kvs := cond c (putK (keysF.zip [w0, w1, w2, w3, w4, w5]) (Sum.inr "pauses") .non) (keysF.zip [w0, w1, w2, w3, w4, w5])) (k := "tries") hks hl (hes.up s03) (by cases c <;> rfl) (up1 _ y1)
      obtain ⟨n2, f2, g2⟩ := kn_at (kvs := cond c (putK (keysF.zip [w0, w1, w2, w3, w4, w5]) (Sum.inr "pauses") .non) (keysF.zip [w0, w1, w2, w3, w4, w5])) (k := "pauses") (w := cond c .non w2) (d := cond c .none (cond (notN de) .none dp)) hks hl (hes.up s03) (by cases c <;> rfl) (by cases c with | true => exact .non | false => exact up1 _ y2)
      obtain ⟨n3, f3, g3⟩ := kn_at (kvs := cond c (putK (keysF.zip [w0, w1, w2, w3, w4, w5]) (Sum.inr "pauses") .non) (keysF.zip [w0, w1, w2, w3, w4, w5])) (k := "early") hks hl (hes.up s03) (by cases c <;> rfl) (up1 _ y3)
      obtain ⟨n4, f4, g4⟩ := kn_at (kvs := cond c (putK (keysF.zip [w0, w1, w2, w3, w4, w5]) (Sum.inr "pauses") .non) (keysF.zip [w0, w1, w2, w3, w4, w5])) (k := "lossy") hks hl (hes.up s03) (by cases c <;> rfl) (up1 _ y4)
      obtain ⟨n5, f5, g5⟩ := kn_at (kvs := cond c (putK (keysF.zip [w0, w1, w2, w3, w4, w5]) (Sum.inr "pauses") .non) (keysF.zip [w0, w1, w2, w3, w4, w5])) (k := "ending") hks hl (hes.up s03) (by cases c <;> rfl) (up1 _ y5)
      have dg : ∀ {k : Str} {y : V}, valV (mergeK (cond c (putK (keysF.zip [w0, w1, w2, w3, w4, w5]) (Sum.inr "pauses") .non) (keysF.zip [w0, w1, w2, w3, w4, w5])) ((inrs ks).zip vs)) (Sum.inr k) = some y →
          DGet (upd H2 q (.dK (mergeK (cond c (putK (keysF.zip [w0, w1, w2, w3, w4, w5]) (Sum.inr "pauses") .non) (keysF.zip [w0, w1, w2, w3, w4, w5])) ((inrs ks).zip vs)))) q (.str k) (some y) := fun {k y} e => by
        have z := DGet.k (k := Sum.inr k) hq3
        rw [e] at z
        exact z
      have eP : chP ks es dp de = chF ks es "pauses" (cond c .none (cond (notN de) .none dp)) := by
        unfold chP
        rw [ec]
      have hd7 := dqA7 hd
      obtain ⟨dn', d0', d1', d2', d3', d4', d5', ee, hn, _⟩ := hd7
      obtain ⟨rfl, _⟩ := List.cons.inj ee
      refine ⟨_, rfl, a, C, dx, _, vn, rfl, s03 _ _ ha, TC.cl, TC.n_name, rfl, _, rfl, q, n0, rfl, dg f0, _, rfl, q, n1, rfl, dg f1, _, rfl, q, n2, rfl, dg f2, _, rfl, q, n3, rfl, dg f3, _, rfl, q, n4, rfl, dg f4, _, rfl, q, n5, rfl, dg f5, rfl, rfl, fun x dx hx hdx hne => ?_⟩
      refine madeX hx hdx (hn.up s03) g0 g1 g2 g3 g4 g5 en (fun wf ew H' d s' hd' => qE fb wf ?_ H' d (s03.trans s') hd') (fun ew H' s' hpol' => qY fb ?_ _ H' (s03.trans s') ?_)
      · unfold chWf
        rw [eP]
        exact ew
      · unfold chWf
        rw [eP]
        exact ew
      · unfold chRow
        rw [eP]
        exact hpol'
end
end K04
namespace K04
open PySem PySem.Spec PyProof.Rows L2 StX LamX
abbrev s_law_told : Stmt := top 29
/-! ### _law_told(lambda: ..) -/
def TTold (CP : Addr) : (XK → Hp → VK → Prop) → Hp → VK → Prop := fun tl H Q =>
  tl (fun cls d H' => cls = .ref CP ∧ ∃ dd v, d = some dd ∧ H' dd = some (.xd [("field", v)]) ∧ Q v H') H (fun _ H' => Q (.str "made") H')
theorem sc_law_told : FnScope ["_law_call", "e"] ["_law_call"] (defScope s_law_told) := ⟨rfl, rfl, rfl, by decide +kernel, rfl, by decide +kernel, by decide +kernel⟩
theorem told_gives {X : Cx} {g CP fP : Addr} {cdg : Value} {q : Str} (TP : PySem.MCX.XTxt X.prog X.K X.mg "InvalidPolicy" "field" CP fP) : GivesW X ["_law_call", "e"] "_law_told" (defScope s_law_told) g cdg (defBody s_law_told) "_law_call" q (TTold CP) := by
  intro f c' s H Q tl act hc h
  refine ⟨_, pss_one (ps_try_manyA (X := (zCx X ["_law_call", "e"] "_law_told" (defScope s_law_told) g cdg s H).nox) (Wo := fun _ _ _ _ => False)
      (tb := fun W D σ H => σ[0]? = some (some (.ref f)) ∧ H c' = some (CodeO c' q) ∧ ∃ Ech : XK, (∀ cls d H', Ech cls d H' → W cls d σ H') ∧ tl Ech H (fun _ H' => D.rt (.str "made") H'))
      rfl rfl sc_law_told.nd LamX.takes0 (fun W pn xe tk _ => ?_) (.cons (i := 1) ⟨rfl, by decide, .inl TP.gC⟩ rfl rfl (fun a oe cls d pn hz hf => pss_one (ps_ret (pe_xf TP.xf TP.noF hz hf (pv 1)))) .nil)), ?_⟩
  · exact (pss_cons (ps_expr (act W pn xe _ _ tk)) (pss_one (ps_ret pe_str)))
  · refine ⟨rfl, hc, fun cls d H' => cls = .ref CP ∧ ∃ dd v, d = some dd ∧ H' dd = some (.xd [("field", v)]) ∧ Q v H', ?_, h⟩
    rintro cls d H' ⟨rfl, dd, v, rfl, hd, hq⟩
    exact ⟨true, TP.te, fun _ a ha => ⟨_, rfl, rfl, rfl, dd, _, v, rfl, hd, rfl, hq⟩, fun z => nomatch z⟩
end K04
namespace K04
open PySem PySem.Spec PyProof.Rows L2 StX
abbrev s_law_policy : Stmt := top 27
theorem upd_self {H : Hp} {p : Addr} {o : HO} (h : H p = some o) : upd H p o = H := funext fun b => by
  unfold upd
  by_cases e : b = p
  · rw [if_pos e, e, h]
  · rw [if_neg e]
theorem hid_upd {H : Hp} {p : Addr} {o : HO} : hid p (upd H p o) = hid p H := funext fun b => by
  unfold hid upd
  by_cases e : b = p
  · rw [if_pos e, if_pos e]
  · rw [if_neg e, if_neg e, if_neg e]
theorem hid_same {H H' : Hp} {p : Addr} (s : Same H H') : Same (hid p H) (hid p H') := fun b o e => by
  unfold hid at e ⊢
  by_cases z : b = p
  · rw [if_pos z] at e; cases e
  · rw [if_neg z] at e ⊢; exact s b o e
/-- a heap that knows nothing of p and of r -/
def hd2 (p r : Addr) (H : Hp) : Hp := hid r (hid p H)
theorem hd2_p {p r : Addr} {H : Hp} {o : HO} : hd2 p r (upd H p o) = hd2 p r H := by unfold hd2; rw [hid_upd]
theorem hd2_r {p r : Addr} {H : Hp} {o : HO} : hd2 p r (upd H r o) = hd2 p r H := funext fun b => by
  unfold hd2 hid upd
  by_cases e : b = r
  · rw [if_pos e, if_pos e]
  · rw [if_neg e, if_neg e, if_neg e]
theorem hd2_in {p r : Addr} {H : Hp} : Same (hd2 p r H) (hid p H) := hid_in
theorem hd2_up {p r : Addr} {H H' : Hp} (s : Same (hid p H) (hid p H')) : Same (hd2 p r H) (hd2 p r H') := hid_same s
theorem newOf_hd2 {p r : Addr} {H H' : Hp} {o u : HO} (hp : H p = some o) (hr : H r = some u) : Same (newOf H H') (hd2 p r H') := fun b v e => by
  obtain ⟨a, c⟩ := newOf_some e
  unfold hd2 hid
  rw [if_neg (fun z => by rw [z, hr] at a; cases a), if_neg (fun z => by rw [z, hp] at a; cases a)]
  exact c
theorem IsPool.of {H : Hp} {p : Addr} {c z : Int} (h0 : 0 ≤ z) (h1 : z < 2147483647) : IsPool (upd H p (poolO c z)) p := ⟨c, z, upd_same, h0, h1⟩
theorem IsPool.up {H H' : Hp} {p : Addr} (s : Same H H') (h : IsPool H p) : IsPool H' p := by
  obtain ⟨c, z, a, b⟩ := h
  exact ⟨c, z, s _ _ a, b⟩
theorem DqA.mem {K : PySem.W.Frag} {H : Hp} : ∀ {vs : List V} {ds : List PyData} {v : V}, DqA K H vs ds → v ∈ vs → ∃ d ∈ ds, Dq K H v d
  | _, _, _, .nil, h => by cases h
  | _, _, _, .cons a r, h => by
    rcases List.mem_cons.mp h with rfl | h
    · exact ⟨_, List.mem_cons_self, a⟩
    · obtain ⟨d, h1, h2⟩ := DqA.mem r h
      exact ⟨d, List.mem_cons_of_mem _ h1, h2⟩
theorem hid_up {H H' : Hp} {p : Addr} (s : Same (hid p H) H') : Same (hid p H) (hid p H') := fun b o e => by
  have h := s b o e
  unfold hid at e ⊢
  by_cases z : b = p
  · rw [if_pos z] at e; cases e
  · rw [if_neg z]; exact h
theorem hid_none {H : Hp} {p b : Addr} (h : H b = none) : hid p H b = none := by
  unfold hid
  by_cases z : b = p
  · rw [if_pos z]
  · rw [if_neg z]; exact h
theorem upd_none {H : Hp} {p b : Addr} {o : HO} (h : upd H p o b = none) : b ≠ p ∧ H b = none := by
  unfold upd at h
  by_cases z : b = p
  · rw [if_pos z] at h; cases h
  · rw [if_neg z] at h; exact ⟨z, h⟩
theorem upd4 {H : Hp} {p D : Addr} {a a' l l' : HO} (h : D ≠ p) : upd (upd (upd (upd H p a) D l) p a') D l' = upd (upd H p a') D l' := funext fun b => by
  unfold upd
  by_cases e : b = D
  · rw [if_pos e, if_pos e]
  · by_cases z : b = p
    · rw [if_neg e, if_pos z, if_neg e, if_pos z]
    · rw [if_neg e, if_neg z, if_neg e, if_neg z, if_neg e, if_neg z]
theorem DqA.ints {K : PySem.W.Frag} {H : Hp} : ∀ ps : List Int, DqA K H (ps.map V.int) (ps.map .int)
  | [] => .nil
  | i :: ps => .cons (.int i) (DqA.ints ps)
/-- the ending -/
def tEnd (K : PySem.W.Frag) : TE := fun σ H Q => ∃ (p : Addr), σ[0]? = some (some (.ref p)) ∧ IsPool H p ∧ ∀ (v : V) (g : PyData) (H' : Hp), EndOk g → Same (hid p H) (hid p H') → IsPool H' p → Dq K (newOf H H') v g → Q v H'

def tSoon : TE := fun σ H Q => ∃ (p : Addr) (many most : Int), σ[0]? = some (some (.ref p)) ∧ σ[2]? = some (some (.int most)) ∧ σ[4]? = some (some (.int many)) ∧ IsPool H p ∧ 1 ≤ most ∧ most ≤ 20 ∧
  ∀ (v : V) (e : PyData) (H' : Hp), ((e = .none ∧ v = .non) ∨ ∃ i : Int, e = .int i ∧ v = .int i ∧ 1 ≤ i ∧ i ≤ 20 ∧ 2 ≤ many) → Same (hid p H) (hid p H') → IsPool H' p → Q v H'
def tDel (K : PySem.W.Frag) : TE := fun σ H Q => ∃ (p : Addr) (t : Int) (w : V), σ[0]? = some (some (.ref p)) ∧ σ[4]? = some (some (.int t)) ∧ σ[5]? = some (some w) ∧ σ.length = 9 ∧ IsPool H p ∧ 1 ≤ t ∧ t ≤ 3 ∧
  ∀ (v : V) (dp : PyData) (ps : List Int) (H' : Hp), (w = .non → dp = .tuple (ps.map .int) ∧ (ps.length : Int) = t - 1) → (w ≠ .non → dp = .none ∧ ps = []) → (∀ x ∈ ps, 0 ≤ x ∧ x ≤ 8) → Same (hid p H) (hid p H') → IsPool H' p → Dq K (hid p H') v dp → Q v H'
theorem del_run {K : PySem.W.Frag} {σ : L2.St} {H : Hp} {Q : VK} (q : tDel K σ H Q) : tIf (tB (tIsN (tVar 5))) (tThen (tLc (iRng1 (tCons (tOp rSub (tVar 4) (tC (.int 1))) tNil)) (gName 8) tYes (tCall spDraw [] E0 (tCons (tVar 0) (tCons (tC (.int 3)) tNil))) [8]) (kTup K)) (tC .non) σ H Q := by
  obtain ⟨p, t, w, e0, e4, e5, el, hp, t1, t2, q1⟩ := q
  refine ⟨_, e5, _, rfl, ?_⟩
  by_cases hw : w = .non
  · refine iteY hw ⟨_, e4, t, 1, rfl, rfl, t - 1, rfl, by omega, by omega, fun D hD => ?_⟩
    match σ, el, e0, e4, e5 with
    | [a0, a1, a2, a3, a4, a5, a6, a7, a8], _, e0, e4, e5 =>
    cases e0
    cases e4
    obtain ⟨c0, z0, hpp, hz0, hz1⟩ := id hp
    have hDp : D ≠ p := fun z => by rw [z, hpp] at hD; cases hD
    refine lc_it (walk_range (lo := 0) (n := (t - 1).toNat)) (fun i H' => ∃ (ps : List Int) (c z : Int), 0 ≤ z ∧ z < 2147483647 ∧ ps.length = i ∧ (∀ x ∈ ps, 0 ≤ x ∧ x ≤ 8) ∧ H' = upd (upd H p (poolO c z)) D (.lst (ps.map V.int))) ?_ (fun _ _ _ _ => trivial) ?_ ?_
    · exact ⟨[], c0, z0, hz0, hz1, rfl, (fun x hx => by cases hx), by rw [upd_self hpp]; rfl⟩
    · rintro i x H1 H2 hi ⟨ps, c, z, g0, g1, hl, hps, rfl⟩ ⟨rfl, rfl⟩
      refine ⟨rfl, ?_⟩
      have hpd : upd (upd H p (poolO c z)) D (.lst (ps.map V.int)) p = some (poolO c z) := by rw [upd_ne (Ne.symm hDp)]; exact upd_same
      refine ⟨_, rfl, p, 3, rfl, ⟨c, z, hpd, g0, g1⟩, by decide, by decide, fun d c' z' h0 h1 k0 k1 => ?_⟩
      refine ⟨ps.map V.int, by rw [upd_ne hDp]; exact upd_same, ?_, ps ++ [d], c', z', k0, k1, by simp [hl], ?_, ?_⟩
      · rw [List.length_map, hl]
        exact Nat.lt_of_lt_of_le (show i < 100 by omega) (by decide)
      · intro x hx
        rcases List.mem_append.mp hx with hx | hx
        · exact hps x hx
        · simp at hx; subst hx; omega
      · rw [upd4 hDp, List.map_append]; rfl
    · rintro H1 ⟨ps, c, z, g0, g1, hl, hps, rfl⟩
      refine .inl ⟨D, _, rfl, SqL.of upd_same, fun a ha => ?_⟩
      obtain ⟨ha1, ha2⟩ := upd_none ha
      obtain ⟨ha3, ha4⟩ := upd_none ha2
      refine q1 _ _ ps _ (fun _ => ⟨rfl, by omega⟩) (fun z => absurd hw z) hps ?_ ?_ ?_
      · exact hid_up (((hid_in.mut hid_p).mut (hid_none hD)).mut (hid_none ha4))
      · exact ⟨c, z, by rw [upd_ne (Ne.symm ha3), upd_ne (Ne.symm hDp)]; exact upd_same, g0, g1⟩
      · exact .tup (SqT.of (by unfold hid; rw [if_neg ha3]; exact upd_same)) (DqA.ints ps)
  · exact iteN hw (q1 _ .none [] H (fun z => absurd z hw) (fun _ => ⟨rfl, rfl⟩) (fun x hx => by cases hx) (Same.refl _) hp .non)
def spPolicy (K : PySem.W.Frag) (C : Addr) : Sp := fun vs H Q _ => ∃ (p : Addr) (n : Str) (most : Int), vs = [.ref p, .str n, .int most] ∧ IsPool H p ∧ n ∈ nmsL ∧ 1 ≤ most ∧ most ≤ 20 ∧
  ∀ v l t ps e y g H', Same (hid p H) (hid p H') → IsPool H' p → IsPol K C H' v (rowOf n l t ps e y g) → RowP n l t ps e y g → Q v H'
section
variable {P : Program} {w : World} {K : PySem.W.Frag} {mg : Str → Option Value} {base : Heap} {f g : Addr} {fd gd : FuncData} {CX : CXT}
theorem sc_law_policy : FnScope ["_law_pool_here", "_law_label", "_law_most", "_law_wait", "_law_many", "_law_soon", "_law_delays", "_law_last", "_law_turn"] ["_law_pool_here", "_law_label", "_law_most"] (defScope s_law_policy) := ⟨rfl, rfl, rfl, by decide +kernel, rfl, by decide +kernel, by decide +kernel⟩
theorem ok_law_policy (F : FnP K "_law_policy" s_law_policy f fd) {gC gD : Addr} {eC eD : FuncData} (GC : FnP K "_law_choose" s_law_choose gC eC) (mC : mg "_law_choose" = some (.ref gC)) (GD : FnP K "_law_draw" s_law_draw gD eD) (mD : mg "_law_draw" = some (.ref gD))
    {fI C CN CP ea : Addr} {eI : FuncData} (GI : FnPol K fI eI (kwsP ea)) (MI : Mk K C fI) (mP : mg "Policy" = some (.ref C)) (FI : FnOk P w K mg base (L2.CX P w) 5 fI eI psPol (spPolI K C CN CP))
    (mlen : mg "len" = none) (mint : mg "int" = none) (mr : mg "range" = none) (mt : mg "tuple" = none) : FnOk P w K mg base CX0 7 f fd ["_law_pool_here", "_law_label", "_law_most"] (spPolicy K C) := by
  have bD : Binds K eD ["_law_pool_here", "_law_many"] [] := GD.bindsN fun _ _ _ _ _ _ us hl => match us, hl with | [_, _], _ => rfl
  have bC : Binds K eC ["_law_pool_here", "_law_items"] [] := GC.bindsN fun _ _ _ _ _ _ us hl => match us, hl with | [_, _], _ => rfl
  have FD : FnOk P w K mg base CX0 1 gD eD ["_law_pool_here", "_law_many"] spDraw := ok_law_draw GD mint
  have FC : FnOk P w K mg base CX0 2 gC eC ["_law_pool_here", "_law_items"] (spChoose K) := ok_law_choose GC GD mD mlen mint
  obtain ⟨mv, kb⟩ := kbA GI
  refine F.ok sc_law_policy (fun vs H Q E h => ?_) (fun cdv A outer s H vs Q E hr h => ?_)
  · obtain ⟨_, _, _, rfl, _⟩ := h
    rfl
  · obtain ⟨p, n, most, rfl, hp, hn, hm1, hm2, q⟩ := h
    have hr1 := hr.mono (by decide : 1 ≤ 6)
    have hr2 := hr.mono (by decide : 2 ≤ 6)
    refine ⟨_, (pss_cons (ps_par (i := 3) (j := 4) (by rfl) sc_law_policy.nd rfl rfl (by decide) rfl rfl (pa_cons (pe_op op_add pe_int (pe_call FD hr1 rfl mD GD.kp bD .nil pass0 (pa_cons (pv 0) (pa_cons (pv 2) pa_nil)))) (pa_cons (pe_op op_add pe_int (pe_call FD hr1 rfl mD GD.kp bD .nil pass0 (pa_cons (pv 0) (pa_cons pe_int pa_nil)))) pa_nil)) (by rfl))
      (pss_cons (ps_set (i := 5) sc_law_policy.nd rfl (Or.inl rfl) (PE.imp (t' := tSoon) (pe_ix ix_list (pe_lst (pa_cons pe_non (pa_cons (pe_op op_add pe_int (pe_call FD hr1 rfl mD GD.kp bD .nil pass0 (pa_cons (pv 0) (pa_cons (pv 2) pa_nil)))) pa_nil))) (pe_op op_mul (pe_call FD hr1 rfl mD GD.kp bD .nil pass0 (pa_cons (pv 0) (pa_cons pe_int pa_nil))) (pe_callTy call_int1 (by rfl) mint (by decide +kernel) (pa_cons (pe_cmpR op_gt (pv 4) pe_int (nomark _)) pa_nil))) (fun _ _ => rfl)) (fun σ H Q q => by
          obtain ⟨p, many, most, e0, e2, e4, hp, m1, m2, q⟩ := q
          obtain ⟨c0, z0, hpp, hz0, hz1⟩ := id hp
          refine ⟨_, e0, _, e2, p, most, rfl, hp, by omega, by omega, fun d c z h0 h1 k0 k1 => ⟨_, _, rfl, rfl, (by show 2 ≤ sizeLine; decide), fun l hl => ?_⟩⟩
          obtain ⟨nl, hl'⟩ := upd_none hl
          refine ⟨_, e0, p, 2, rfl, ⟨c, z, by rw [upd_ne (Ne.symm nl)]; exact upd_same, k0, k1⟩, by decide, by decide, fun d2 c2 z2 g0 g1 y0 y1 => ?_⟩
          refine ⟨_, e4, many, 1, rfl, rfl, .inr ⟨_, rfl, _, _, rfl, rfl, .inl ⟨by omega, by omega⟩, ?_⟩⟩
          have S : Same (hid p H) (hid p (upd (upd (upd H p (poolO c z)) l (.lst [.non, .int (1 + d)])) p (poolO c2 z2))) := hid_up (((hid_in.mut hid_p).mut (hid_none hl')).mut hid_p)
          have hL : upd (upd (upd H p (poolO c z)) l (.lst [.non, .int (1 + d)])) p (poolO c2 z2) l = some (.lst [.non, .int (1 + d)]) := by rw [upd_ne nl]; exact upd_same
          have at0 : ∀ i : Int, i = 0 → atI [V.non, .int (1 + d)] i = some .non := fun i h => by rw [h]; rfl
          have at1 : ∀ i : Int, i = 1 → atI [V.non, .int (1 + d)] i = some (.int (1 + d)) := fun i h => by rw [h]; rfl
          by_cases hmany : many > 1
          · rw [decide_eq_true hmany]
            by_cases hd2 : d2 = 0
            · exact ⟨l, _, _, .non, rfl, rfl, SqL.of hL, at0 _ (by rw [hd2]; rfl), q _ .none _ (.inl ⟨rfl, rfl⟩) S (IsPool.of y0 y1)⟩
            · exact ⟨l, _, _, .int (1 + d), rfl, rfl, SqL.of hL, at1 _ (by show d2 * 1 = 1; omega), q _ (.int (1 + d)) _ (.inr ⟨1 + d, rfl, rfl, by omega, by omega, by omega⟩) S (IsPool.of y0 y1)⟩
          · rw [decide_eq_false hmany]
            exact ⟨l, _, _, .non, rfl, rfl, SqL.of hL, at0 _ (by show d2 * 0 = 0; omega), q _ .none _ (.inl ⟨rfl, rfl⟩) S (IsPool.of y0 y1)⟩)))
      (pss_cons (ps_set (i := 6) sc_law_policy.nd rfl (Or.inl rfl) (PE.imp (t' := tDel K) (pe_ifExp (pt_cmp (pc_isN (pv 5))) (pe_tupleOf (by rfl) mt (pe_lc (own := [("_law_turn", 8)]) (g := gName 8) (tt := tYes) rfl sc_law_policy.nd (pi_range1 rfl mr (pa_cons (pe_op op_sub (pv 4) pe_int) pa_nil)) (blkOk_by (N := ["_law_pool_here", "_law_label", "_law_most", "_law_wait", "_law_many", "_law_soon", "_law_delays", "_law_last", "_law_turn"]) (sc := defScope s_law_policy) (by decide +kernel)) (fun _ _ _ _ _ => pg_name (i := 8) sc_law_policy.nd rfl (Or.inl rfl)) (fun _ _ _ _ _ => pts_nil) (fun _ _ _ _ _ => (pe_call FD hr1 rfl mD GD.kp bD .nil pass0 (pa_cons (pv 0) (pa_cons pe_int pa_nil)))))) pe_non) (fun σ H Q q => del_run q)))
      (pss_cons (ps_set (i := 7) sc_law_policy.nd rfl (Or.inl rfl) (PE.imp (t' := tEnd K) (pe_call FC hr2 rfl mC GC.kp bC .nil pass0 (pa_cons (pv 0) (pa_cons (pe_lst (pa_cons (pe_tup (pa_cons pe_str pa_nil)) (pa_cons (pe_tup (pa_cons pe_str pa_nil)) (pa_cons (pe_tup (pa_cons pe_str (pa_cons pe_int pa_nil))) (pa_cons (pe_tup (pa_cons pe_str (pa_cons (pe_op op_add pe_int (pe_call FD hr1 rfl mD GD.kp bD .nil pass0 (pa_cons (pv 0) (pa_cons pe_int pa_nil)))) pa_nil))) pa_nil))))) pa_nil))) (fun σ H Q q => by
          obtain ⟨p, e0, hp, q⟩ := q
          obtain ⟨c0, z0, hpp, hz0, hz1⟩ := id hp
          refine ⟨_, e0, (by show 1 ≤ sizeLine; decide), fun a1 h1 => ⟨(by show 1 ≤ sizeLine; decide), fun a2 h2 => ⟨(by show 2 ≤ sizeLine; decide), fun a4 h4 => ?_⟩⟩⟩
          have s4 : Same H (upd (upd (upd H a1 (.tup [.str "go"])) a2 (.tup [.str "deadline"])) a4 (.tup [.str "stop", .int 0])) := ((Same.new' h1).trans (Same.new' h2)).trans (Same.new' h4)
          have s14 : Same (upd H a1 (.tup [.str "go"])) (upd (upd (upd H a1 (.tup [.str "go"])) a2 (.tup [.str "deadline"])) a4 (.tup [.str "stop", .int 0])) := (Same.new' h2).trans (Same.new' h4)
          have E1 := s14 a1 _ upd_same
          have E2 := (Same.new' (o := .tup [.str "stop", .int 0]) h4) a2 _ upd_same
          have k2 := (Same.new' h1).free h2
          have k4 := ((Same.new' h1).trans (Same.new' h2)).free h4
          have E4 : upd (upd (upd H a1 (.tup [.str "go"])) a2 (.tup [.str "deadline"])) a4 (.tup [.str "stop", .int 0]) a4 = some (.tup [.str "stop", .int 0]) := upd_same
          generalize upd (upd (upd H a1 (.tup [.str "go"])) a2 (.tup [.str "deadline"])) a4 (.tup [.str "stop", .int 0]) = H4 at s4 E1 E2 E4 ⊢
          refine ⟨_, e0, p, 2, rfl, hp.up s4, by decide, by decide, fun d c z hd0 hd1 g0 g1 => ⟨_, _, rfl, rfl, (by show 2 ≤ sizeLine; decide), fun a3 h3 => ⟨(by show 4 ≤ sizeLine; decide), fun l hl => ?_⟩⟩⟩
          obtain ⟨n3p, h3'⟩ := upd_none h3
          have k3 := s4.free h3'
          obtain ⟨nl3, hl1⟩ := upd_none hl
          obtain ⟨nlp, hl2⟩ := upd_none hl1
          have kl := s4.free hl2
          have p1 : a1 ≠ p := fun z => by rw [z, hpp] at h1; cases h1
          have p2 : a2 ≠ p := fun z => by rw [z, hpp] at k2; cases k2
          have p4 : a4 ≠ p := fun z => by rw [z, hpp] at k4; cases k4
          refine ⟨p, l, [.ref a1, .ref a2, .ref a4, .ref a3], rfl, ⟨c, z, by rw [upd_ne (Ne.symm nlp), upd_ne (Ne.symm n3p)]; exact upd_same, g0, g1⟩, SqL.of upd_same, fun o => SqL.of (by rw [upd_ne nlp]; exact upd_same), by simp, (by show 4 ≤ 1000; decide), fun x c' z' hx k0' k1' => ?_⟩
          have S : Same (hid p H) (hid p (upd (upd (upd (upd H4 p (poolO c z)) a3 (.tup [.str "stop", .int (1 + d)])) l (.lst [.ref a1, .ref a2, .ref a4, .ref a3])) p (poolO c' z'))) :=
            hid_up (((((hid_in.trans s4).mut hid_p).mut (hid_none k3)).mut (hid_none kl)).mut hid_p)
          have old : ∀ b u, b ≠ p → H4 b = some u → upd (upd (upd (upd H4 p (poolO c z)) a3 (.tup [.str "stop", .int (1 + d)])) l (.lst [.ref a1, .ref a2, .ref a4, .ref a3])) p (poolO c' z') b = some u := fun b u hb e => by
            have e' : upd H4 p (poolO c z) b = some u := by rw [upd_ne hb]; exact e
            rw [upd_ne hb, upd_ne (ne_of_none (by rw [upd_ne (ne_of_none e' h3)]; exact e') hl), upd_ne (ne_of_none e' h3)]
            exact e'
          have e3 : upd (upd (upd (upd H4 p (poolO c z)) a3 (.tup [.str "stop", .int (1 + d)])) l (.lst [.ref a1, .ref a2, .ref a4, .ref a3])) p (poolO c' z') a3 = some (.tup [.str "stop", .int (1 + d)]) := by
            rw [upd_ne n3p, upd_ne (Ne.symm nl3)]; exact upd_same
          simp only [List.mem_cons, List.not_mem_nil, or_false] at hx
          rcases hx with rfl | rfl | rfl | rfl
          · exact q _ _ _ (.inl rfl) S (IsPool.of k0' k1') (.tup (SqT.of (newOf_of h1 (old _ _ p1 E1))) (.cons (.str _ (by decide)) .nil))
          · exact q _ _ _ (.inr (.inl rfl)) S (IsPool.of k0' k1') (.tup (SqT.of (newOf_of k2 (old _ _ p2 E2))) (.cons (.str _ (by decide)) .nil))
          · exact q _ _ _ (.inr (.inr ⟨0, rfl, by omega, by omega⟩)) S (IsPool.of k0' k1') (.tup (SqT.of (newOf_of k4 (old _ _ p4 E4))) (.cons (.str _ (by decide)) (.cons (.int 0) .nil)))
          · exact q _ _ _ (.inr (.inr ⟨1 + d, rfl, by omega, by omega⟩)) S (IsPool.of k0' k1') (.tup (SqT.of (newOf_of k3 e3)) (.cons (.str _ (by decide)) (.cons (.int _) .nil))))))
      (pss_one (ps_ret (by exact pe_makeK (E := E0) MI FI hr rfl mP kb passL (pa_cons (pv 1) (pa_cons (pv 3) pa_nil)) (pk_cons (pv 4) (pk_cons (pv 6) (pk_cons (pv 5) (pk_cons (pe_cmpR op_eq (pe_call FD hr1 rfl mD GD.kp bD .nil pass0 (pa_cons (pv 0) (pa_cons pe_int pa_nil))) pe_int (nomark _)) (pk_cons (pv 7) pk_nil)))))))))))), ?_⟩
    refine ⟨_, rfl, _, rfl, p, most, rfl, hp, by omega, by omega, fun d c z h0 h1 k0 k1 => ⟨_, _, rfl, rfl, _, rfl, p, 3, rfl, IsPool.of k0 k1, by decide, by decide, fun d2 c2 z2 g0 g1 y0 y1 => ⟨_, _, rfl, rfl, _, _, rfl, ?_⟩⟩⟩
    rw [upd_upd]
    refine ⟨p, 1 + d2, most, rfl, rfl, rfl, IsPool.of y0 y1, hm1, hm2, fun v5 e H3 he S3 P3 => ?_⟩
    refine ⟨p, 1 + d2, v5, rfl, rfl, rfl, rfl, P3, by omega, by omega, fun v6 dp ps H4 hd1 hd2 hps S4 P4 D4 => ?_⟩
    refine ⟨p, rfl, P4, fun v7 g H5 hg S5 P5 D5 => ?_⟩
    refine ⟨_, rfl, _, rfl, _, rfl, _, rfl, _, rfl, _, rfl, p, 4, rfl, P5, by decide, by decide, fun d6 c6 z6 _ _ k60 k61 => ⟨rfl, _, rfl, rfl, rfl, fun x dx hx hdx hne => ?_⟩⟩
    have u5 : Same (hid p H5) (upd H5 p (poolO c6 z6)) := hid_in.mut hid_p
    obtain ⟨c4, z4, hp4, _⟩ := id P4
    have D6 : Dq K (upd H5 p (poolO c6 z6)) v6 dp := (D4.up S5).up u5
    have G6 : Dq K (upd H5 p (poolO c6 z6)) v7 g := (D5.up (newOf_hid hp4)).up u5
    have R : RowP n (1 + d) (1 + d2) ps e (decide (V.int d6 = V.int 0)) g ∧ Dq K (upd H5 p (poolO c6 z6)) v5 e ∧ dp = delay e ps := by
      rcases he with ⟨rfl, rfl⟩ | ⟨i, rfl, rfl, i1, i2, i3⟩
      · obtain ⟨rfl, hl⟩ := hd1 rfl
        exact ⟨⟨hn, by omega, by omega, by omega, by omega, hps, .inl ⟨rfl, hl⟩, hg⟩, .non, rfl⟩
      · obtain ⟨rfl, rfl⟩ := hd2 (fun z => nomatch z)
        exact ⟨⟨hn, by omega, by omega, by omega, by omega, hps, .inr ⟨i, rfl, i1, i2, i3, rfl⟩, hg⟩, .int i, rfl⟩
    obtain ⟨R, E6, rfl⟩ := R
    obtain ⟨ew, ep⟩ := row_wf R
    have sz : n.length ≤ sizeLine := by
      have z : (nmsL.all fun n => decide (n.length ≤ sizeLine)) = true := by decide
      exact of_decide_eq_true (List.all_eq_true.mp z n hn)
    refine madeX hx hdx (.str n sz) (.int _) (.int _) D6 E6 (.bl _) G6 (nm_ok hn) (fun wf z => by rw [ew] at z; cases z) (fun _ H' s' hp' => ?_)
    have e7 : ownPauses (intOf (.int (1 + d2))) (delay e ps) e = .tuple (ps.map .int) := ep
    rw [e7] at hp'
    have Q6 : IsPool (upd H5 p (poolO c6 z6)) p := IsPool.of k60 k61
    refine q _ _ _ ps e _ g H' ?_ (Q6.up s') hp' R
    have t3 : Same (hid p H) (hid p H3) := by rw [hid_upd] at S3; exact S3
    exact hid_up ((((t3.trans S4).trans S5).trans u5).trans s')
end
end K04
namespace K04
open PySem PySem.Spec PyProof.Rows L2 StX LamX
theorem PT.imp {X : Cx} {e : Expr} {t t' : TT} (h : PT X e t) (f : ∀ σ H Q, t' σ H Q → t σ H Q) : PT X e t' := ⟨fun pins s σ H Q I q => h.run pins s σ H Q I (f σ H Q q)⟩
structure Blt2 (mg : Str → Option Value) : Prop where
  range : mg "range" = none
  max : mg "max" = none
  min : mg "min" = none
  repr : mg "repr" = none
theorem RowOk.len {ds : List PyData} (h : RowOk ds) : ds.length ≤ 100 := by
  obtain ⟨n, l, t, ps, e, y, g, rfl, _⟩ := h
  show 7 ≤ 100
  decide
theorem RowOk.fine {ds : List PyData} (h : RowOk ds) : Fine (.list ds) := fine_list h.cmp h.len
theorem RowOk.shl {ds : List PyData} (h : RowOk ds) : SeqAt.shaped (.list ds) = true := by
  obtain ⟨a1, _, _, _, a5, _⟩ := fine_all h.cmp
  unfold SeqAt.shaped
  rw [show (PyData.list ds).canLay0 = true from by simp [PyData.canLay0, a1], decide_eq_true (show (PyData.list ds).depth ≤ 64 by simp only [PyData.depth]; omega)]
  rfl
theorem rep {K : PySem.W.Frag} {H : Hp} {v : V} {d : PyData} {Q : VK} (h : Dq K H v d) (hf : Fine d) (q : Q (.str d.shown) H) : rRepr K [v] H Q := ⟨v, d, rfl, h.dp hf.nd, hf.sh, hf.nd, hf.dp, hf.ln, q⟩

/-! ### the plain law of changed -/
theorem wf_ok {l t : Int} {dp de g : PyData} {y : Bool} (l1 : 1 ≤ l) (l2 : l ≤ 20) (t1 : 1 ≤ t) (t2 : t ≤ 3) (hp : (notN dp && (notN de || !arePauses dp t)) = false) (he : (notN de && (decide (t < 2) || !isBetw de 1 20)) = false) (hg : isEnding g = true) :
    wrongField (.int l) (.int t) dp de (.bool y) g = none := by
  have e1 : isBetw (.int l) 1 20 = true := by simp [isBetw, l1, l2]
  have e2 : isBetw (.int t) 1 3 = true := by simp [isBetw, t1, t2]
  unfold wrongField
  rw [e1, e2, show intOf (.int t) = t from rfl, hp, show ltTwo (.int t) = decide (t < 2) from rfl, he, hg]
  rfl
section
variable {n : Str} {l t : Int} {ps : List Int} {e g : PyData} {y : Bool}
abbrev dps (ps : List Int) : PyData := .tuple (ps.map .int)
theorem row_ps (R : RowP n l t ps e y g) : (notN (cond (notN e) .none (dps ps)) && (notN e || !arePauses (cond (notN e) .none (dps ps)) t)) = false := by
  rcases R.ear with ⟨rfl, hl⟩ | ⟨i, rfl, _⟩
  · have hq := ps_ok R.hp hl
    simp only [notN, cond_false, Bool.true_and, Bool.false_or]
    rw [hq]
    rfl
  · simp [notN]
theorem row_ear (R : RowP n l t ps e y g) : (notN e && (decide (t < 2) || !isBetw e 1 20)) = false := by
  rcases R.ear with ⟨rfl, _⟩ | ⟨i, rfl, h1, h2, h3, _⟩
  · rfl
  · have z : ¬ t < 2 := by omega
    simp [notN, isBetw, h1, h2, z]
theorem row_own (R : RowP n l t ps e y g) : ownPauses t (cond (notN e) .none (dps ps)) e = dps ps := by
  rcases R.ear with ⟨rfl, hl⟩ | ⟨i, rfl, _, _, _, rfl⟩
  · rfl
  · rfl
abbrev chRw (ks : List Str) (es : List PyData) (n : Str) (l t : Int) (ps : List Int) (e : PyData) (y : Bool) (g : PyData) : List PyData := chRow ks es (.str n) (.int l) (.int t) (dps ps) e (.bool y) g
abbrev chW (ks : List Str) (es : List PyData) (l t : Int) (ps : List Int) (e : PyData) (y : Bool) (g : PyData) : Option Str := chWf ks es (.int l) (.int t) (dps ps) e (.bool y) g
theorem r_none (R : RowP n l t ps e y g) : chW [] [] l t ps e y g = none ∧ chRw [] [] n l t ps e y g = rowOf n l t ps e y g := by
  refine ⟨wf_ok R.l1 R.l2 R.t1 R.t2 (row_ps R) (row_ear R) (end_ok R.ed), ?_⟩
  show [PyData.str n, .int l, .int t, ownPauses t (cond (notN e) .none (dps ps)) e, e, .bool y, g] = _
  rw [row_own R]
  rfl
theorem r_limit (R : RowP n l t ps e y g) : chW ["limit"] [.int 7] l t ps e y g = none ∧ chRw ["limit"] [.int 7] n l t ps e y g = rowOf n 7 t ps e y g := by
  refine ⟨wf_ok (l := 7) (by decide) (by decide) R.t1 R.t2 (row_ps R) (row_ear R) (end_ok R.ed), ?_⟩
  show [PyData.str n, .int 7, .int t, ownPauses t (cond (notN e) .none (dps ps)) e, e, .bool y, g] = _
  rw [row_own R]
  rfl
theorem r_el (R : RowP n l t ps e y g) : chW ["ending", "lossy"] [.tuple [.str "stop", .int 3], .bool (!y)] l t ps e y g = none ∧ chRw ["ending", "lossy"] [.tuple [.str "stop", .int 3], .bool (!y)] n l t ps e y g = rowOf n l t ps e (!y) (.tuple [.str "stop", .int 3]) ∧ RowP n l t ps e (!y) (.tuple [.str "stop", .int 3]) := by
  have ed : EndOk (.tuple [.str "stop", .int 3]) := .inr (.inr ⟨3, rfl, by decide, by decide⟩)
  refine ⟨wf_ok R.l1 R.l2 R.t1 R.t2 (row_ps R) (row_ear R) (end_ok ed), ?_, ⟨R.nm, R.l1, R.l2, R.t1, R.t2, R.hp, R.ear, ed⟩⟩
  show [PyData.str n, .int l, .int t, ownPauses t (cond (notN e) .none (dps ps)) e, e, .bool (!y), .tuple [.str "stop", .int 3]] = _
  rw [row_own R]
  rfl
theorem r_tries (R : RowP n l t ps .none y g) : chW ["tries"] [.int 3] l t ps .none y g = none ∧ chRw ["tries"] [.int 3] n l t ps .none y g = rowOf n l 3 [0, 0] .none y g ∧ RowP n l 3 [0, 0] .none y g :=
  ⟨wf_ok (t := 3) R.l1 R.l2 (by decide) (by decide) rfl rfl (end_ok R.ed), rfl, ⟨R.nm, R.l1, R.l2, by decide, by decide, by decide, .inl ⟨rfl, rfl⟩, R.ed⟩⟩
theorem r_te (R : RowP n l t ps .none y g) : chW ["tries", "early"] [.int 2, .int 4] l t ps .none y g = none ∧ chRw ["tries", "early"] [.int 2, .int 4] n l t ps .none y g = rowOf n l 2 [] (.int 4) y g ∧ RowP n l 2 [] (.int 4) y g :=
  ⟨wf_ok (t := 2) R.l1 R.l2 (by decide) (by decide) rfl (by decide) (end_ok R.ed), rfl, ⟨R.nm, R.l1, R.l2, by decide, by decide, by decide, .inr ⟨4, rfl, by decide, by decide, by decide, rfl⟩, R.ed⟩⟩
theorem r_tp (R : RowP n l t ps .none y g) : chW ["tries", "pauses"] [.int 3, .tuple [.int 1, .int 8]] l t ps .none y g = none ∧ chRw ["tries", "pauses"] [.int 3, .tuple [.int 1, .int 8]] n l t ps .none y g = rowOf n l 3 [1, 8] .none y g :=
  ⟨wf_ok (t := 3) R.l1 R.l2 (by decide) (by decide) rfl rfl (end_ok R.ed), rfl⟩
theorem rep_ints (k : Nat) : List.replicate k (PyData.int 0) = (List.replicate k (0 : Int)).map .int := by rw [List.map_replicate]
theorem r_early {i : Int} (R : RowP n l t ps (.int i) y g) : chW ["early"] [.none] l t ps (.int i) y g = none ∧ chRw ["early"] [.none] n l t ps (.int i) y g = rowOf n l t (List.replicate (t - 1).toNat 0) .none y g ∧ RowP n l t (List.replicate (t - 1).toNat 0) .none y g := by
  refine ⟨wf_ok R.l1 R.l2 R.t1 R.t2 rfl rfl (end_ok R.ed), ?_, ⟨R.nm, R.l1, R.l2, R.t1, R.t2, ?_, .inl ⟨rfl, ?_⟩, R.ed⟩⟩
  · show [PyData.str n, .int l, .int t, .tuple (List.replicate (t - 1).toNat (.int 0)), .none, .bool y, g] = _
    rw [rep_ints]
    rfl
  · intro p hp
    rw [List.eq_of_mem_replicate hp]
    decide
  · rw [List.length_replicate]
    have := R.t1
    omega
theorem r_tries_e {i : Int} (R : RowP n l t ps (.int i) y g) : chW ["tries"] [.int 3] l t ps (.int i) y g = none ∧ chRw ["tries"] [.int 3] n l t ps (.int i) y g = rowOf n l 3 [] (.int i) y g := by
  have hi : 1 ≤ i ∧ i ≤ 20 := by
    rcases R.ear with ⟨z, _⟩ | ⟨j, z, h1, h2, _⟩
    · cases z
    · cases z; exact ⟨h1, h2⟩
  exact ⟨wf_ok (t := 3) R.l1 R.l2 (by decide) (by decide) rfl (by show (notN (.int i) && (decide ((3 : Int) < 2) || !isBetw (.int i) 1 20)) = false; simp [notN, isBetw, hi.1, hi.2]) (end_ok R.ed), rfl⟩
theorem bl_ok {l : Int} (l1 : 1 ≤ l) (l2 : l ≤ 20) : isBetw (.int l) 1 20 = true := by simp [isBetw, l1, l2]
theorem bt_ok {t : Int} (t1 : 1 ≤ t) (t2 : t ≤ 3) : isBetw (.int t) 1 3 = true := by simp [isBetw, t1, t2]
theorem w_tries1 {i : Int} (R : RowP n l t ps (.int i) y g) : chW ["tries"] [.int 1] l t ps (.int i) y g = some "early" := by
  show wrongField (.int l) (.int 1) .none (.int i) (.bool y) g = _
  unfold wrongField
  rw [bl_ok R.l1 R.l2]
  rfl
theorem w_pauses {i : Int} {d : PyData} (hd : notN d = true) (R : RowP n l t ps (.int i) y g) : chW ["pauses"] [d] l t ps (.int i) y g = some "pauses" := by
  show wrongField (.int l) (.int t) d (.int i) (.bool y) g = _
  unfold wrongField
  rw [bl_ok R.l1 R.l2, bt_ok R.t1 R.t2, hd]
  rfl
theorem w_limit (R : RowP n l t ps e y g) : chW ["limit"] [.int 0] l t ps e y g = some "limit" := rfl
theorem w_tries4 (R : RowP n l t ps e y g) : chW ["tries"] [.int 4] l t ps e y g = some "tries" := by
  show wrongField (.int l) (.int 4) .none e (.bool y) g = _
  unfold wrongField
  rw [bl_ok R.l1 R.l2]
  rfl
theorem w_lossy (R : RowP n l t ps e y g) : chW ["lossy"] [.int 1] l t ps e y g = some "lossy" := by
  show wrongField (.int l) (.int t) (cond (notN e) .none (dps ps)) e (.int 1) g = _
  unfold wrongField
  rw [bl_ok R.l1 R.l2, bt_ok R.t1 R.t2, show intOf (.int t) = t from rfl, row_ps R, show ltTwo (.int t) = decide (t < 2) from rfl, row_ear R]
  rfl
theorem w_ending (R : RowP n l t ps e y g) : chW ["ending"] [.tuple []] l t ps e y g = some "ending" := by
  show wrongField (.int l) (.int t) (cond (notN e) .none (dps ps)) e (.bool y) (.tuple []) = _
  unfold wrongField
  rw [bl_ok R.l1 R.l2, bt_ok R.t1 R.t2, show intOf (.int t) = t from rfl, row_ps R, show ltTwo (.int t) = decide (t < 2) from rfl, row_ear R]
  rfl
end
section
variable {K : PySem.W.Frag} {C CP : Addr} {ks : List Str} {v : V} {vs : List V} {H : Hp} {Q : VK} {E : XK} {n : Str} {l t : Int} {ps : List Int} {e g : PyData} {y : Bool} {es nd : List PyData}
theorem ch_yes (hv : IsPol K C H v (rowOf n l t ps e y g)) (R : RowP n l t ps e y g) (hes : DqA K H vs es) (fb : firstBad ks = none) (ew : chW ks es l t ps e y g = none) (er : chRw ks es n l t ps e y g = nd)
    (q : ∀ v' H', Same H H' → IsPol K C H' v' nd → Q v' H') : spCh K C CP ks v vs H Q E :=
  ⟨_, _, _, _, _, _, _, es, hv, nm_ok R.nm, hes, (fun b z => by rw [fb] at z; cases z), (fun _ wf z => by rw [show chWf _ _ _ _ _ _ _ _ = _ from ew] at z; cases z), fun _ _ v' H' s h => q v' H' s (er ▸ h)⟩
theorem ch_no {wf : Str} (hv : IsPol K C H v (rowOf n l t ps e y g)) (R : RowP n l t ps e y g) (hes : DqA K H vs es) (fb : firstBad ks = none) (ew : chW ks es l t ps e y g = some wf)
    (q : ∀ H' x, Same H H' → H' x = none → E (.ref CP) (some x) (upd H' x (.xd [("field", .str wf)]))) : spCh K C CP ks v vs H Q E :=
  ⟨_, _, _, _, _, _, _, es, hv, nm_ok R.nm, hes, (fun b z => by rw [fb] at z; cases z), (fun _ wf' z => by rw [show chWf _ _ _ _ _ _ _ _ = _ from ew] at z; cases z; exact q), fun _ z => by rw [show chWf _ _ _ _ _ _ _ _ = _ from ew] at z; cases z⟩
theorem ch_kw {b : Str} (hv : IsPol K C H v (rowOf n l t ps e y g)) (R : RowP n l t ps e y g) (hes : DqA K H vs es) (fb : firstBad ks = some b)
    (q : ∀ H' x, Same H H' → H' x = none → E (.ref CP) (some x) (upd H' x (.xd [("field", .str b)]))) : spCh K C CP ks v vs H Q E :=
  ⟨_, _, _, _, _, _, _, es, hv, nm_ok R.nm, hes, (fun b' z => by rw [fb] at z; cases z; exact q), (fun z => by rw [fb] at z; cases z), fun z => by rw [fb] at z; cases z⟩
end
/-! ### what stays while tables grow -/
mutual
theorem Dq.upN {K : PySem.W.Frag} {H H' : Hp} (s : ExtN H H') : ∀ {v : V} {d : PyData}, Dq K H v d → Dq K H' v d
  | _, _, .non => .non
  | _, _, .bl b => .bl b
  | _, _, .int i => .int i
  | _, _, .str x h => .str x h
  | _, _, .lst h a => .lst (by
      rcases h with (h | ⟨ob, h⟩) | h
      · exact .inl (.inl (s _ _ h (fun _ z => nomatch z)))
      · exact .inl (.inr ⟨ob, s _ _ h (fun _ z => nomatch z)⟩)
      · exact .inr h) (DqA.upN s a)
  | _, _, .tup h a => .tup (by
      rcases h with (h | ⟨ob, h⟩) | h
      · exact .inl (.inl (s _ _ h (fun _ z => nomatch z)))
      · exact .inl (.inr ⟨ob, s _ _ h (fun _ z => nomatch z)⟩)
      · exact .inr h) (DqA.upN s a)
  | _, _, .dct h => .dct (s _ _ h (fun _ z => nomatch z))
theorem DqA.upN {K : PySem.W.Frag} {H H' : Hp} (s : ExtN H H') : ∀ {vs : List V} {ds : List PyData}, DqA K H vs ds → DqA K H' vs ds
  | _, _, .nil => .nil
  | _, _, .cons h r => .cons (Dq.upN s h) (DqA.upN s r)
end
theorem IsPol.upN {K : PySem.W.Frag} {C : Addr} {H H' : Hp} {v : V} {ds : List PyData} (s : ExtN H H') (h : IsPol K C H v ds) : IsPol K C H' v ds := by
  obtain ⟨a, dx, vn, v0, v1, v2, v3, v4, v5, rfl, ha, hd⟩ := h
  exact ⟨a, dx, vn, v0, v1, v2, v3, v4, v5, rfl, s _ _ ha (fun _ z => nomatch z), DqA.upN s hd⟩
theorem passLS {X : Cx} : ∀ σ, PassesAt (L2.CX X.prog X.w) X σ ((fun _ => E0 : L2.St → XK) σ) := fun σ pins H s e s' I c => passL pins σ H s e s' I c
theorem dqA_inv7 {K : PySem.W.Frag} {H : Hp} {d0 d1 d2 d3 d4 d5 d6 : PyData} {xs : List V} (h : DqA K H xs [d0, d1, d2, d3, d4, d5, d6]) : ∃ v0 v1 v2 v3 v4 v5 v6, xs = [v0, v1, v2, v3, v4, v5, v6] ∧ Dq K H v0 d0 ∧ Dq K H v1 d1 ∧ Dq K H v2 d2 ∧ Dq K H v3 d3 ∧ Dq K H v4 d4 ∧ Dq K H v5 d5 ∧ Dq K H v6 d6 := by
  match h with
  | .cons h0 (.cons h1 (.cons h2 (.cons h3 (.cons h4 (.cons h5 (.cons h6 .nil)))))) => exact ⟨_, _, _, _, _, _, _, rfl, h0, h1, h2, h3, h4, h5, h6⟩
end K04
namespace K04
open PySem PySem.Spec PyProof.Rows L2 StX LamX
abbrev s_law_pauses_right : Stmt := top 30
def qOf (x : Str) : Str := (x ++ ".<locals>.") ++ "<lambda>"
structure ChFs (P : Program) (w : World) (K : PySem.W.Frag) (mg : Str → Option Value) (base : Heap) (f C CP : Addr) : Prop where
  c0 : FnKw P w K mg base (L2.CX P w) 7 f [] (spCh K C CP [])
  cL : FnKw P w K mg base (L2.CX P w) 7 f ["limit"] (spCh K C CP ["limit"])
  cEL : FnKw P w K mg base (L2.CX P w) 7 f ["ending", "lossy"] (spCh K C CP ["ending", "lossy"])
  cT : FnKw P w K mg base (L2.CX P w) 7 f ["tries"] (spCh K C CP ["tries"])
  cTE : FnKw P w K mg base (L2.CX P w) 7 f ["tries", "early"] (spCh K C CP ["tries", "early"])
  cTP : FnKw P w K mg base (L2.CX P w) 7 f ["tries", "pauses"] (spCh K C CP ["tries", "pauses"])
  cE : FnKw P w K mg base (L2.CX P w) 7 f ["early"] (spCh K C CP ["early"])
  cP : FnKw P w K mg base (L2.CX P w) 7 f ["pauses"] (spCh K C CP ["pauses"])
  cN : FnKw P w K mg base (L2.CX P w) 7 f ["name"] (spCh K C CP ["name"])
  cLN : FnKw P w K mg base (L2.CX P w) 7 f ["limit", "limits", "name"] (spCh K C CP ["limit", "limits", "name"])
  cY : FnKw P w K mg base (L2.CX P w) 7 f ["lossy"] (spCh K C CP ["lossy"])
  cG : FnKw P w K mg base (L2.CX P w) 7 f ["ending"] (spCh K C CP ["ending"])
/-- a test of the policy in slot i and of its fields in slot j, which is not so -/
def tF (K : PySem.W.Frag) (C : Addr) (T : List (Addr × Str)) (i j : Nat) (pe : PyData → Prop) : TT := fun σ H Q => ∃ v r n l t ps e y g, σ[i]? = some (some v) ∧ σ[j]? = some (some r) ∧ IsPol K C H v (rowOf n l t ps e y g) ∧ Dq K H r (.list (rowOf n l t ps e y g)) ∧ RowP n l t ps e y g ∧ pe e ∧ Tabs T H ∧
  ∀ H', ExtN H H' → Tabs T H' → Q false H'
def spPR (K : PySem.W.Frag) (C : Addr) (T : List (Addr × Str)) : Sp := fun vs H Q _ => ∃ v r n l t ps e y g, vs = [v, r] ∧ IsPol K C H v (rowOf n l t ps e y g) ∧ Dq K H r (.list (rowOf n l t ps e y g)) ∧ RowP n l t ps e y g ∧ Tabs T H ∧
  ∀ H', ExtN H H' → Tabs T H' → Q (.bl true) H'
theorem DqA.app {K : PySem.W.Frag} {H : Hp} : ∀ {vs ws : List V} {ds es : List PyData}, DqA K H vs ds → DqA K H ws es → DqA K H (vs ++ ws) (ds ++ es)
  | _, _, _, _, .nil, r => r
  | _, _, _, _, .cons h t, r => .cons h (DqA.app t r)
def isI (e : PyData) : Prop := ∃ i, e = .int i
section
variable {P : Program} {w : World} {K : PySem.W.Frag} {mg : Str → Option Value} {base : Heap} {f g : Addr} {fd gd : FuncData} {CX : CXT}
theorem sc_pr : FnScope ["_law_one", "_law_kept", "_law_due"] ["_law_one", "_law_kept"] (defScope s_law_pauses_right) := ⟨rfl, rfl, rfl, by decide +kernel, rfl, by decide +kernel, by decide +kernel⟩
theorem ok_pr (F : FnP K "_law_pauses_right" s_law_pauses_right f fd) (M : Blt2 mg) {C CP fP fC : Addr} (TC : PolC K C) (TP : PySem.MCX.XTxt P K mg "InvalidPolicy" "field" CP fP) (MCh : Meth K C "changed" fC) (Z : ChFs P w K mg base fC C CP)
    {pa ga : Nat → Addr} {ge : Nat → FuncData} (G : Getters P w K mg base C pa ga ge) {gO gT : Addr} {eO eT : FuncData} (GO : FnP K "_law_fields_of" s_law_fields_of gO eO) (mO : mg "_law_fields_of" = some (.ref gO)) (FO : FnOk P w K mg base CX0 3 gO eO ["_law_one"] (spFieldsOf K C))
    (GT : FnP K "_law_told" s_law_told gT eT) (mT : mg "_law_told" = some (.ref gT)) {T : List (Addr × Str)} {c PT_ : Addr} (TB : TabB base mg c PT_) (hcode : fd.code = .ref c) (hmT : (PT_, qOf "_law_pauses_right") ∈ T) (huT : ∀ p ∈ T, p.1 = PT_ → p.2 = qOf "_law_pauses_right") :
    FnG P w K mg base CX0 10 f fd ["_law_one", "_law_kept"] (spPR K C T) := by
  have bO : Binds K eO ["_law_one"] [] := GO.bindsN fun _ _ _ _ _ _ us hl => match us, hl with | [_], _ => rfl
  have bT : Binds K eT ["_law_call"] [] := GT.bindsN fun _ _ _ _ _ _ us hl => match us, hl with | [_], _ => rfl
  refine F.okGC sc_pr (fun vs H Q E h => ?_) (fun A outer s H vs Q E hgd hr9 h => ?_)
  · obtain ⟨_, _, _, _, _, _, _, _, _, rfl, _⟩ := h
    rfl
  · obtain ⟨v, r, n, l, t, ps, e, y, g, rfl, hv, hr', R, hT, q⟩ := h
    have hu := hr9.units
    have hr2 := hr9.mono (by decide : 2 ≤ 9)
    have hr3 := hr9.mono (by decide : 3 ≤ 9)
    have hr7 := hr9.mono (by decide : 7 ≤ 9)
    refine ⟨_, PSs.nox (pss_cons (ps_if (pt_cmp (pc_isN (pe_prop (pv 0) TC.cl G.p_early G.f_early hr2 G.b_early .nil pass0 rfl)))
        (pss_cons (ps_if (PT.imp (t' := tF K C T 0 1 (fun e => e = .none)) (pt_cmpR op_ne (pe_callB (id := "repr") (r := rRepr K) (by exact call_repr hgd hu) (by rfl) M.repr (by decide +kernel) (pa_cons (pe_call FO hr3 rfl mO GO.kp bO .nil pass0 (pa_cons (by exact pe_methKw (E := fun _ => E0) (pv 0) TC.cl MCh Z.cT hr7 passLS (pk_cons pe_int pk_nil)) pa_nil)) pa_nil)) (pe_callB (id := "repr") (r := rRepr K) (by exact call_repr hgd hu) (by rfl) M.repr (by decide +kernel) (pa_cons (pe_op op_cat (pe_op op_cat (pe_slice sl_list (pv 1) po_none (po_some pe_int)) (pl_lstL (pla_cons pl_int (pla_cons (pl_tup (pla_cons pl_int (pla_cons pl_int pla_nil))) (pla_cons pl_non pla_nil))))) (pe_slice sl_list (pv 1) (po_some pe_int) po_none)) pa_nil)) (nomark _)) (fun σ H Q q => by
          obtain ⟨v, r, n, l, t, ps, e, y, g, e0, e1, hv, hr', R, rfl, hT, q⟩ := q
          obtain ⟨ew, er, R2⟩ := r_tries R
          obtain ⟨a, dx, vn, v0, v1, v2, v3, v4, v5, rfl, ha, hd⟩ := id hv
          refine ⟨_, e0, a, dx, _, rfl, ha, rfl, rfl, ch_yes hv R (.cons (.int 3) .nil) rfl ew er (fun v' H1 s1 hp1 => ⟨v', _, rfl, hp1, fun r1 xs1 hr1 hx1 => ?_⟩)⟩
          have F2 : RowOk (rowOf n l 3 [0, 0] .none y g) := ⟨_, _, _, _, _, _, _, rfl, R2⟩
          (try simp only [tNil, tC])
          refine rep (d := .list (rowOf n l 3 [0, 0] .none y g)) (.lst (SqL.of upd_same) (hx1.up (Same.new' hr1))) F2.fine ?_
          have s2 : Same H (upd H1 r1 (.lst xs1)) := s1.trans (Same.new' hr1)
          cases hr' with
          | @lst rr xs _ hS hA =>
          obtain ⟨u0, u1, u2, u3, u4, u5, u6, rfl, z0, z1, z2, z3, z4, z5, z6⟩ := dqA_inv7 hA
          refine ⟨_, e1, _, rfl, rr, _, rfl, s2.seq hS, fun p1 hp1 => ?_⟩
          have s3 := s2.trans (Same.new' (o := .lst (cutV [u0, u1, u2, u3, u4, u5, u6] none (some (2 : Int)))) hp1)
          intro r2 vs2 H3 n2 t3 t3' f3 d2
          have s4 := s3.trans t3'
          refine ⟨p1, r2, _, _, rfl, rfl, t3' _ _ upd_same, upd_same, (by rw [d2.len]; show 2 + 3 ≤ sizeLine; decide), fun p3 hp3 => ?_⟩
          have s5 := s4.trans (Same.new' (o := .lst (cutV [u0, u1, u2, u3, u4, u5, u6] none (some (2 : Int)) ++ vs2)) hp3)
          refine ⟨_, e1, _, rfl, rr, _, rfl, s5.seq hS, fun p4 hp4 => ?_⟩
          refine ⟨p3, p4, _, _, rfl, rfl, (Same.new' hp4) _ _ upd_same, upd_same, (by rw [List.length_append, d2.len]; show 2 + 3 + 2 ≤ sizeLine; decide), fun p5 hp5 => ?_⟩
          have s6 := (s5.trans (Same.new' (o := .lst (cutV [u0, u1, u2, u3, u4, u5, u6] (some (5 : Int)) none)) hp4)).trans (Same.new' (o := .lst ((cutV [u0, u1, u2, u3, u4, u5, u6] none (some (2 : Int)) ++ vs2) ++ cutV [u0, u1, u2, u3, u4, u5, u6] (some (5 : Int)) none)) hp5)
          have d3 := (d2.up newOf_in).up ((((Same.new' (o := .lst vs2) f3).trans (Same.new' hp3)).trans (Same.new' hp4)).trans (Same.new' (o := .lst ((cutV [u0, u1, u2, u3, u4, u5, u6] none (some (2 : Int)) ++ vs2) ++ cutV [u0, u1, u2, u3, u4, u5, u6] (some (5 : Int)) none)) hp5))
          (try simp only [tNil, tC])
          refine rep (d := .list (rowOf n l 3 [0, 0] .none y g)) (.lst (SqL.of upd_same) ?_) F2.fine ?_
          · exact DqA.app (DqA.app (.cons (z0.up s6) (.cons (z1.up s6) .nil)) d3) (.cons (z5.up s6) (.cons (z6.up s6) .nil))
          · refine ⟨rfl, _, rfl, ?_⟩
            rw [decide_eq_true rfl]
            exact q _ (ExtN.of s6) (hT.ext s6))) (pss_one (ps_ret pe_bl)) pss_nil)
        (pss_cons (ps_if (PT.imp (t' := tF K C T 0 1 (fun e => e = .none)) (pt_cmpR op_ne (pe_callB (id := "repr") (r := rRepr K) (by exact call_repr hgd hu) (by rfl) M.repr (by decide +kernel) (pa_cons (pe_call FO hr3 rfl mO GO.kp bO .nil pass0 (pa_cons (by exact pe_methKw (E := fun _ => E0) (pv 0) TC.cl MCh Z.cTE hr7 passLS (pk_cons pe_int (pk_cons pe_int pk_nil))) pa_nil)) pa_nil)) (pe_callB (id := "repr") (r := rRepr K) (by exact call_repr hgd hu) (by rfl) M.repr (by decide +kernel) (pa_cons (pe_op op_cat (pe_op op_cat (pe_slice sl_list (pv 1) po_none (po_some pe_int)) (pl_lstL (pla_cons pl_int (pla_cons (pl_tup pla_nil) (pla_cons pl_int pla_nil))))) (pe_slice sl_list (pv 1) (po_some pe_int) po_none)) pa_nil)) (nomark _)) (fun σ H Q q => by
          obtain ⟨v, r, n, l, t, ps, e, y, g, e0, e1, hv, hr', R, rfl, hT, q⟩ := q
          obtain ⟨ew, er, R2⟩ := r_te R
          obtain ⟨a, dx, vn, v0, v1, v2, v3, v4, v5, rfl, ha, hd⟩ := id hv
          refine ⟨_, e0, a, dx, _, rfl, ha, rfl, rfl, ch_yes hv R (.cons (.int 2) (.cons (.int 4) .nil)) rfl ew er (fun v' H1 s1 hp1 => ⟨v', _, rfl, hp1, fun r1 xs1 hr1 hx1 => ?_⟩)⟩
          have F2 : RowOk (rowOf n l 2 [] (.int 4) y g) := ⟨_, _, _, _, _, _, _, rfl, R2⟩
          (try simp only [tNil, tC])
          refine rep (d := .list (rowOf n l 2 [] (.int 4) y g)) (.lst (SqL.of upd_same) (hx1.up (Same.new' hr1))) F2.fine ?_
          have s2 : Same H (upd H1 r1 (.lst xs1)) := s1.trans (Same.new' hr1)
          cases hr' with
          | @lst rr xs _ hS hA =>
          obtain ⟨u0, u1, u2, u3, u4, u5, u6, rfl, z0, z1, z2, z3, z4, z5, z6⟩ := dqA_inv7 hA
          refine ⟨_, e1, _, rfl, rr, _, rfl, s2.seq hS, fun p1 hp1 => ?_⟩
          have s3 := s2.trans (Same.new' (o := .lst (cutV [u0, u1, u2, u3, u4, u5, u6] none (some (2 : Int)))) hp1)
          intro r2 vs2 H3 n2 t3 t3' f3 d2
          have s4 := s3.trans t3'
          refine ⟨p1, r2, _, _, rfl, rfl, t3' _ _ upd_same, upd_same, (by rw [d2.len]; show 2 + 3 ≤ sizeLine; decide), fun p3 hp3 => ?_⟩
          have s5 := s4.trans (Same.new' (o := .lst (cutV [u0, u1, u2, u3, u4, u5, u6] none (some (2 : Int)) ++ vs2)) hp3)
          refine ⟨_, e1, _, rfl, rr, _, rfl, s5.seq hS, fun p4 hp4 => ?_⟩
          refine ⟨p3, p4, _, _, rfl, rfl, (Same.new' hp4) _ _ upd_same, upd_same, (by rw [List.length_append, d2.len]; show 2 + 3 + 2 ≤ sizeLine; decide), fun p5 hp5 => ?_⟩
          have s6 := (s5.trans (Same.new' (o := .lst (cutV [u0, u1, u2, u3, u4, u5, u6] (some (5 : Int)) none)) hp4)).trans (Same.new' (o := .lst ((cutV [u0, u1, u2, u3, u4, u5, u6] none (some (2 : Int)) ++ vs2) ++ cutV [u0, u1, u2, u3, u4, u5, u6] (some (5 : Int)) none)) hp5)
          have d3 := (d2.up newOf_in).up ((((Same.new' (o := .lst vs2) f3).trans (Same.new' hp3)).trans (Same.new' hp4)).trans (Same.new' (o := .lst ((cutV [u0, u1, u2, u3, u4, u5, u6] none (some (2 : Int)) ++ vs2) ++ cutV [u0, u1, u2, u3, u4, u5, u6] (some (5 : Int)) none)) hp5))
          (try simp only [tNil, tC])
          refine rep (d := .list (rowOf n l 2 [] (.int 4) y g)) (.lst (SqL.of upd_same) ?_) F2.fine ?_
          · exact DqA.app (DqA.app (.cons (z0.up s6) (.cons (z1.up s6) .nil)) d3) (.cons (z5.up s6) (.cons (z6.up s6) .nil))
          · refine ⟨rfl, _, rfl, ?_⟩
            rw [decide_eq_true rfl]
            exact q _ (ExtN.of s6) (hT.ext s6))) (pss_one (ps_ret pe_bl)) pss_nil)
        (pss_one (ps_ret (pe_cmpR (op_eqD hu) (pe_prop (by exact pe_methKw (E := fun _ => E0) (pv 0) TC.cl MCh Z.cTP hr7 passLS (pk_cons pe_int (pk_cons (pl_tup (pla_cons pl_int (pla_cons pl_int pla_nil))) pk_nil))) TC.cl G.p_pauses G.f_pauses hr2 G.b_pauses .nil pass0 rfl) (pl_tup (pla_cons pl_int (pla_cons pl_int pla_nil))) (nomark _)))))) pss_nil)
      (pss_cons (ps_set (i := 2) sc_pr.nd rfl (Or.inl rfl) (pe_op op_cat (pe_op op_cat (pe_slice sl_list (pv 1) po_none (po_some pe_int)) (pe_lst (pa_cons (pe_op op_rep1 (pe_tup (pa_cons pe_int pa_nil)) (pe_op op_sub (pe_ix ix_list (pv 1) pe_int (fun _ _ => rfl)) pe_int)) (pa_cons pe_non pa_nil)))) (pe_slice sl_list (pv 1) (po_some pe_int) po_none)))
      (pss_cons (ps_if (pt_cmpR op_ne (pe_callB (id := "repr") (r := rRepr K) (by exact call_repr hgd hu) (by rfl) M.repr (by decide +kernel) (pa_cons (pe_call FO hr3 rfl mO GO.kp bO .nil pass0 (pa_cons (by exact pe_methKw (E := fun _ => E0) (pv 0) TC.cl MCh Z.cE hr7 passLS (pk_cons pe_non pk_nil)) pa_nil)) pa_nil)) (pe_callB (id := "repr") (r := rRepr K) (by exact call_repr hgd hu) (by rfl) M.repr (by decide +kernel) (pa_cons (pv 2) pa_nil)) (nomark _)) (pss_one (ps_ret pe_bl)) pss_nil)
      (pss_cons (ps_if (pt_cmpR (op_neD hu) (pe_prop (by exact pe_methKw (E := fun _ => E0) (pv 0) TC.cl MCh Z.cT hr7 passLS (pk_cons pe_int pk_nil)) TC.cl G.p_early G.f_early hr2 G.b_early .nil pass0 rfl) (pe_ix ix_list (pv 1) pe_int (fun _ _ => rfl)) (nomark _)) (pss_one (ps_ret pe_bl)) pss_nil)
      (pss_cons (ps_if (pt_cmpR op_ne (by exact pe_lamW (t := fun E => tMethKw C "changed" 1 (spCh K C CP ["tries"]) (fun _ => E) (tVar 0) (tCons (tC (.int 1)) tNil)) (T := T) (TT := TTold CP) (x := "_law_told") (a := "_law_call") (Ng := ["_law_call", "e"]) rfl mT GT bT sc_law_told rfl (.inl rfl) (fun cdv => told_gives TP) TB hcode hmT huT hr9 (lamS_by (sc := defScope s_law_pauses_right) (by decide +kernel)) rfl (fun _ _ _ _ _ => rfl) (fun A outer s H E f c' hr' => by exact PE.imp (pe_methKw (X := lamCx _ A outer s H E _ f c') (E := fun _ => E) (pv 0) TC.cl MCh Z.cT hr' (fun σ => passAt (takes_of rfl rfl rfl rfl) σ) (pk_cons pe_int pk_nil)) (fun _ _ _ q => q))) pe_str (nomark _)) (pss_one (ps_ret pe_bl)) pss_nil)
      (pss_one (ps_ret (pe_cmpR op_eq (by exact pe_lamW (t := fun E => tMethKw C "changed" 1 (spCh K C CP ["pauses"]) (fun _ => E) (tVar 0) (tCons (tOp (rRep1 K) (tTup (tCons (tC (.int 0)) tNil)) (tOp rSub (tOp (rIxL K) (tVar 1) (tC (.int 2))) (tC (.int 1)))) tNil)) (T := T) (TT := TTold CP) (x := "_law_told") (a := "_law_call") (Ng := ["_law_call", "e"]) rfl mT GT bT sc_law_told rfl (.inl rfl) (fun cdv => told_gives TP) TB hcode hmT huT hr9 (lamS_by (sc := defScope s_law_pauses_right) (by decide +kernel)) rfl (fun _ _ _ _ _ => rfl) (fun A outer s H E f c' hr' => by exact PE.imp (pe_methKw (X := lamCx _ A outer s H E _ f c') (E := fun _ => E) (pv 0) TC.cl MCh Z.cP hr' (fun σ => passAt (takes_of rfl rfl rfl rfl) σ) (pk_cons (pe_op op_rep1 (pe_tup (pa_cons pe_int pa_nil)) (pe_op op_sub (pe_ix ix_list (pv 1) pe_int (fun _ _ => rfl)) pe_int)) pk_nil)) (fun _ _ _ q => q))) pe_str (nomark _))))))))), ?_⟩
    obtain ⟨a, dx, vn, v0, v1, v2, v3, v4, v5, rfl, ha, hd⟩ := id hv
    obtain ⟨dn', d0', d1', d2', d3', d4', d5', ee, _, _, _, _, h3, _⟩ := dqA7 hd
    cases ee
    refine ⟨_, rfl, a, dx, _, rfl, ha, a, dx, _, v3, rfl, ha, rfl, _, rfl, ?_⟩
    rcases R.ear with ⟨rfl, hl⟩ | ⟨i, rfl, i1, i2, i3, rfl⟩
    · cases h3
      refine iteY rfl ?_
      refine ⟨_, r, n, l, t, ps, _, y, g, rfl, rfl, hv, hr', R, rfl, hT, fun H1 e1 T1 => iteF ?_⟩
      refine ⟨_, r, n, l, t, ps, _, y, g, rfl, rfl, IsPol.upN e1 hv, Dq.upN e1 hr', R, rfl, T1, fun H2 e2 T2 => iteF ?_⟩
      have hv2 := IsPol.upN (e1.trans e2) hv
      have ha2 := (e1.trans e2) _ _ ha (fun _ z => nomatch z)
      obtain ⟨ew, er⟩ := r_tp R
      refine ⟨_, rfl, a, dx, _, rfl, ha2, rfl, ?_⟩
      intro vt H3 s3 dt
      refine ⟨rfl, ch_yes (hv2.up s3) R (.cons (.int 3) (.cons (dt.up newOf_in) .nil)) rfl ew er (fun v' H4 s4 hp4 => ?_)⟩
      obtain ⟨a', dx', vn', w0, w1, w2, w3, w4, w5, rfl, ha', hd'⟩ := hp4
      obtain ⟨_, _, _, _, _, _, _, ee', _, _, _, k2, _⟩ := dqA7 hd'
      cases ee'
      refine ⟨a', dx', _, rfl, ha', a', dx', _, w2, rfl, ha', rfl, ?_⟩
      intro vr H5 s5 dr
      refine ⟨.tuple [.int 1, .int 8], .tuple [.int 1, .int 8], (k2.up s5).dp (by decide +kernel), (dr.up newOf_in).dp (by decide +kernel), by decide +kernel, by decide +kernel, ?_⟩
      rw [show PyData.eqv (.tuple [.int 1, .int 8]) (.tuple [.int 1, .int 8]) = true from by decide +kernel]
      have s25 := (s3.trans s4).trans s5
      exact q _ ((e1.trans e2).trans (ExtN.of s25)) (T2.ext s25)
    · cases h3
      refine iteN (fun z => nomatch z) ?_
      cases hr' with
      | @lst rr xs _ hS hA =>
      obtain ⟨u0, u1, u2, u3, u4, u5, u6, rfl, z0, z1, z2, z3, z4, z5, z6⟩ := dqA_inv7 hA
      obtain rfl := dq_int z2
      obtain ⟨ew, er, R2⟩ := r_early R
      have F2 : RowOk (rowOf n l t (List.replicate (t - 1).toNat 0) .none y g) := ⟨_, _, _, _, _, _, _, rfl, R2⟩
      refine ⟨_, rfl, _, rfl, rr, _, rfl, hS, fun p1 hp1 => ?_⟩
      have s1 : Same H (upd H p1 (.lst (cutV [u0, u1, .int t, u3, u4, u5, u6] none (some (3 : Int))))) := Same.new' hp1
      refine ⟨(by show 1 ≤ sizeLine; decide), fun p2 hp2 => ⟨_, rfl, rr, _, 2, .int t, rfl, rfl, (s1.trans (Same.new' hp2)).seq hS, rfl, _, _, rfl, rfl, p2, (t - 1).toNat, .int 0, rfl, (by rw [Int.toNat_of_nonneg (by omega)]), SqT.of upd_same, (by have := R.t2; omega), fun p3 H3 s3 hT3 => ⟨(by show 2 ≤ sizeLine; decide), fun p4 hp4 => ?_⟩⟩⟩
      have s14 := ((Same.new' (o := .tup [.int 0]) hp2).trans s3).trans (Same.new' (o := .lst [.ref p3, .non]) hp4)
      have s4 := s1.trans s14
      refine ⟨p1, p4, _, _, rfl, rfl, s14 _ _ upd_same, upd_same, (by show 3 + 2 ≤ sizeLine; decide), fun p5 hp5 => ?_⟩
      have s5 := s4.trans (Same.new' (o := .lst (cutV [u0, u1, .int t, u3, u4, u5, u6] none (some (3 : Int)) ++ [.ref p3, .non])) hp5)
      refine ⟨_, rfl, _, rfl, rr, _, rfl, s5.seq hS, fun p6 hp6 => ?_⟩
      refine ⟨p5, p6, _, _, rfl, rfl, (Same.new' hp6) _ _ upd_same, upd_same, (by show 5 + 2 ≤ sizeLine; decide), fun p7 hp7 => ?_⟩
      have s37 := (((Same.new' (o := .lst [.ref p3, .non]) hp4).trans (Same.new' (o := .lst (cutV [u0, u1, .int t, u3, u4, u5, u6] none (some (3 : Int)) ++ [.ref p3, .non])) hp5)).trans (Same.new' (o := .lst (cutV [u0, u1, .int t, u3, u4, u5, u6] (some (5 : Int)) none)) hp6)).trans (Same.new' (o := .lst ((cutV [u0, u1, .int t, u3, u4, u5, u6] none (some (3 : Int)) ++ [.ref p3, .non]) ++ cutV [u0, u1, .int t, u3, u4, u5, u6] (some (5 : Int)) none)) hp7)
      have sD := (s1.trans ((Same.new' (o := .tup [.int 0]) hp2).trans s3)).trans s37
      have DD : Dq K (upd (upd (upd (upd H3 p4 (.lst [.ref p3, .non])) p5 (.lst (cutV [u0, u1, .int t, u3, u4, u5, u6] none (some (3 : Int)) ++ [.ref p3, .non]))) p6 (.lst (cutV [u0, u1, .int t, u3, u4, u5, u6] (some (5 : Int)) none))) p7 (.lst ((cutV [u0, u1, .int t, u3, u4, u5, u6] none (some (3 : Int)) ++ [.ref p3, .non]) ++ cutV [u0, u1, .int t, u3, u4, u5, u6] (some (5 : Int)) none))) (.ref p7) (.list (rowOf n l t (List.replicate (t - 1).toNat 0) .none y g)) := by
        refine .lst (SqL.of upd_same) ?_
        have tp : Dq K H3 (.ref p3) (dps (List.replicate (t - 1).toNat 0)) := by
          refine .tup hT3 ?_
          rw [← rep_ints]
          exact DqA.rep (.int 0) _
        exact DqA.app (DqA.app (.cons (z0.up sD) (.cons (z1.up sD) (.cons (.int t) .nil))) (.cons (tp.up s37) (.cons .non .nil))) (.cons (z5.up sD) (.cons (z6.up sD) .nil))
      generalize upd (upd (upd (upd H3 p4 (.lst [.ref p3, .non])) p5 (.lst (cutV [u0, u1, .int t, u3, u4, u5, u6] none (some (3 : Int)) ++ [.ref p3, .non]))) p6 (.lst (cutV [u0, u1, .int t, u3, u4, u5, u6] (some (5 : Int)) none))) p7 (.lst ((cutV [u0, u1, .int t, u3, u4, u5, u6] none (some (3 : Int)) ++ [.ref p3, .non]) ++ cutV [u0, u1, .int t, u3, u4, u5, u6] (some (5 : Int)) none)) = HD at sD DD ⊢
      refine ⟨_, rfl, a, dx, _, rfl, sD _ _ ha, rfl, rfl, ch_yes (hv.up sD) R (.cons .non .nil) rfl ew er (fun v' H4 s4 hp4 => ⟨v', _, rfl, hp4, fun r1 xs1 hr1 hx1 => ?_⟩)⟩
      (try simp only [tNil, tC])
      refine rep (d := .list (rowOf n l t (List.replicate (t - 1).toNat 0) .none y g)) (.lst (SqL.of upd_same) (hx1.up (Same.new' hr1))) F2.fine ?_
      have s5' : Same HD (upd H4 r1 (.lst xs1)) := s4.trans (Same.new' hr1)
      refine ⟨_, rfl, ?_⟩
      (try simp only [tNil, tC])
      refine rep (DD.up s5') F2.fine ?_
      refine ⟨rfl, _, rfl, iteNY rfl ?_⟩
      have sE := sD.trans s5'
      generalize upd H4 r1 (.lst xs1) = HE at sE ⊢
      obtain ⟨ew3, er3⟩ := r_tries_e R
      refine ⟨_, rfl, a, dx, _, rfl, sE _ _ ha, rfl, rfl, ch_yes (hv.up sE) R (.cons (.int 3) .nil) rfl ew3 er3 (fun v' H6 s6 hp6 => ?_)⟩
      obtain ⟨a', dx', vn', w0, w1, w2, w3, w4, w5, rfl, ha', hd'⟩ := hp6
      obtain ⟨_, _, _, _, _, _, _, ee', _, _, _, _, k3, _⟩ := dqA7 hd'
      cases ee'
      have sF := sE.trans s6
      refine ⟨a', dx', _, rfl, ha', a', dx', _, w3, rfl, ha', rfl, _, rfl, rr, _, 4, u4, rfl, rfl, sF.seq hS, rfl, .int i, .int i, k3.dp rfl, (z4.up sF).dp rfl, rfl, rfl, _, rfl, ?_⟩
      have ei : PyData.eqv (.int i) (.int i) = true := eqv_refl _ rfl
      rw [ei]
      refine iteF ?_
      refine ⟨hT.ext sF, fun H7 e7 T7 => ?_⟩
      have hv7 := IsPol.upN e7 (hv.up sF)
      refine ⟨_, rfl, a, dx, _, rfl, e7 _ _ (sF _ _ ha) (fun _ z => nomatch z), rfl, rfl, ch_no hv7 R (.cons (.int 1) .nil) rfl (w_tries1 R) (fun H8 x s8 hx => ⟨rfl, x, .str "early", rfl, upd_same, ⟨rfl, _, rfl, iteNY rfl ?_⟩⟩)⟩
      have s9 : Same H7 (upd H8 x (.xd [("field", .str "early")])) := s8.trans (Same.new' hx)
      have e9 : ExtN H (upd H8 x (.xd [("field", .str "early")])) := ((ExtN.of sF).trans e7).trans (ExtN.of s9)
      refine ⟨T7.ext s9, fun H10 e10 T10 => ?_⟩
      have eA := e9.trans e10
      have hvA := IsPol.upN eA hv
      have hrA : Dq K H10 (.ref rr) (.list (rowOf n l t [] (.int i) y g)) := Dq.upN eA (.lst hS hA)
      have hSA : SqL K H10 rr [u0, u1, .int t, u3, u4, u5, u6] := by
        rcases hS with (h | ⟨ob, h⟩) | h
        · exact .inl (.inl (eA _ _ h (fun _ z => nomatch z)))
        · exact .inl (.inr ⟨ob, eA _ _ h (fun _ z => nomatch z)⟩)
        · exact .inr h
      refine ⟨_, rfl, a, dx, _, rfl, eA _ _ ha (fun _ z => nomatch z), rfl, ?_⟩
      refine ⟨(by show 1 ≤ sizeLine; decide), fun p8 hp8 => ⟨_, rfl, rr, _, 2, .int t, rfl, rfl, (Same.new' hp8).seq hSA, rfl, _, _, rfl, rfl, p8, (t - 1).toNat, .int 0, rfl, (by rw [Int.toNat_of_nonneg (by omega)]), SqT.of upd_same, (by have := R.t2; omega), fun p9 H11 s11 hT11 => ?_⟩⟩
      have sB := (Same.new' (o := .tup [.int 0]) hp8).trans s11
      refine ⟨rfl, ch_no (hvA.up sB) R (.cons (.tup hT11 (DqA.rep (.int 0) _)) .nil) rfl (w_pauses rfl R) (fun H12 x s12 hx => ⟨rfl, x, .str "pauses", rfl, upd_same, ⟨rfl, ?_⟩⟩)⟩
      rw [decide_eq_true rfl]
      have sC : Same H10 (upd H12 x (.xd [("field", .str "pauses")])) := (sB.trans s12).trans (Same.new' hx)
      exact q _ (eA.trans (ExtN.of sC)) (T10.ext sC)
end
end K04
namespace K04
open PySem PySem.Spec PyProof.Rows L2 StX LamX
abbrev s_law : Stmt := top 31
theorem SqL.upN {K : PySem.W.Frag} {H H' : Hp} {a : Addr} {xs : List V} (s : ExtN H H') (h : SqL K H a xs) : SqL K H' a xs := by
  rcases h with (h | ⟨ob, h⟩) | h
  · exact .inl (.inl (s _ _ h (fun _ z => nomatch z)))
  · exact .inl (.inr ⟨ob, s _ _ h (fun _ z => nomatch z)⟩)
  · exact .inr h
def spLaw (K : PySem.W.Frag) (T : List (Addr × Str)) : Sp := fun vs H Q _ => ∃ (a : Addr) (ns : List Int), vs = [.ref a] ∧ SqL K H a (ns.map V.int) ∧ ns.length ≤ 63 ∧ Tabs T H ∧ ∀ H', Q (.bl true) H'
section
variable {P : Program} {w : World} {K : PySem.W.Frag} {mg : Str → Option Value} {base : Heap} {f g : Addr} {fd gd : FuncData} {CX : CXT}
theorem sc_law : FnScope ["_law_script", "_law_k", "_law_pool_here", "_law_one", "_law_kept", "_law_due"] ["_law_script"] (defScope s_law) := ⟨rfl, rfl, rfl, by decide +kernel, rfl, by decide +kernel, by decide +kernel⟩
theorem ok_law (F : FnP K "law" s_law f fd) (B : Blt mg) (M : Blt2 mg) {C CP fP fC : Addr} (TC : PolC K C) (TP : PySem.MCX.XTxt P K mg "InvalidPolicy" "field" CP fP) (MCh : Meth K C "changed" fC) (Z : ChFs P w K mg base fC C CP)
    {pa ga : Nat → Addr} {ge : Nat → FuncData} (G : Getters P w K mg base C pa ga ge) {gO gT gP gY gR : Addr} {eO eT eP eY eR : FuncData} (GO : FnP K "_law_fields_of" s_law_fields_of gO eO) (mO : mg "_law_fields_of" = some (.ref gO)) (FO : FnOk P w K mg base CX0 3 gO eO ["_law_one"] (spFieldsOf K C))
    (GT : FnP K "_law_told" s_law_told gT eT) (mT : mg "_law_told" = some (.ref gT)) (GP : FnP K "_law_pool" s_law_pool gP eP) (mP : mg "_law_pool" = some (.ref gP)) (GY : FnP K "_law_policy" s_law_policy gY eY) (mY : mg "_law_policy" = some (.ref gY)) (FY : FnOk P w K mg base CX0 7 gY eY ["_law_pool_here", "_law_label", "_law_most"] (spPolicy K C))
    {T : List (Addr × Str)} (GR : FnP K "_law_pauses_right" s_law_pauses_right gR eR) (mR : mg "_law_pauses_right" = some (.ref gR)) (FR : FnG P w K mg base CX0 10 gR eR ["_law_one", "_law_kept"] (spPR K C T))
    {c PT_ : Addr} (TB : TabB base mg c PT_) (hcode : fd.code = .ref c) (hmT : (PT_, qOf "law") ∈ T) (huT : ∀ p ∈ T, p.1 = PT_ → p.2 = qOf "law") :
    FnG P w K mg base CX0 11 f fd ["_law_script"] (spLaw K T) := by
  have bO : Binds K eO ["_law_one"] [] := GO.bindsN fun _ _ _ _ _ _ us hl => match us, hl with | [_], _ => rfl
  have bT : Binds K eT ["_law_call"] [] := GT.bindsN fun _ _ _ _ _ _ us hl => match us, hl with | [_], _ => rfl
  have bP : Binds K eP ["_law_script", "_law_k"] [] := GP.bindsN fun _ _ _ _ _ _ us hl => match us, hl with | [_, _], _ => rfl
  have bY : Binds K eY ["_law_pool_here", "_law_label", "_law_most"] [] := GY.bindsN fun _ _ _ _ _ _ us hl => match us, hl with | [_, _, _], _ => rfl
  have bR : Binds K eR ["_law_one", "_law_kept"] [] := GR.bindsN fun _ _ _ _ _ _ us hl => match us, hl with | [_, _], _ => rfl
  have FP : FnOk P w K mg base CX0 1 gP eP ["_law_script", "_law_k"] (spPool K) := ok_law_pool GP B.len B.int
  refine F.okGC sc_law (fun vs H Q E h => ?_) (fun A outer s H vs Q E hgd hr h => ?_)
  · obtain ⟨_, _, rfl, _⟩ := h
    rfl
  · obtain ⟨a, ns, rfl, hS, hlen, hT, q⟩ := h
    have hu := hr.units
    have hr1 := hr.mono (by decide : 1 ≤ 10)
    have hr2 := hr.mono (by decide : 2 ≤ 10)
    have hr3 := hr.mono (by decide : 3 ≤ 10)
    have hr7 := hr.mono (by decide : 7 ≤ 10)
    have hr9 := hr.mono (by decide : 9 ≤ 10)
    refine ⟨_, PSs.nox (pss_cons (ps_for PassesOwn.never rfl (pi_range1 rfl M.range (pa_cons (pe_callB (call_max2 rfl) (by rfl) M.max (by decide +kernel) (pa_cons pe_int (pa_cons (pe_callB (call_min2 rfl) (by rfl) M.min (by decide +kernel) (pa_cons (pe_callB call_len (by rfl) B.len (by decide +kernel) (pa_cons (pv 0) pa_nil)) (pa_cons pe_int pa_nil))) pa_nil))) pa_nil)) (pg_name (i := 1) sc_law.nd rfl (Or.inl rfl))
        (pss_cons (ps_set (i := 2) sc_law.nd rfl (Or.inl rfl) (pe_call FP hr1 rfl mP GP.kp bP .nil pass0 (pa_cons (pv 0) (pa_cons (pv 1) pa_nil))))
        (pss_cons (ps_set (i := 3) sc_law.nd rfl (Or.inr rfl) (pe_call FY hr7 rfl mY GY.kp bY .nil pass0 (pa_cons (pv 2) (pa_cons pe_str (pa_cons pe_int pa_nil)))))
        (pss_cons (ps_set (i := 4) sc_law.nd rfl (Or.inl rfl) (pe_call FO hr3 rfl mO GO.kp bO .nil pass0 (pa_cons (pv 3) pa_nil)))
        (pss_cons (ps_if (PW.pt (pw_or (PT.imp (t' := tF K C T 3 4 (fun _ => True)) (pt_cmpR (op_neD hu) (pe_call FO hr3 rfl mO GO.kp bO .nil pass0 (pa_cons (by exact pe_methKw0 (E := fun _ => E0) (pv 3) TC.cl MCh Z.c0 hr7 passLS) pa_nil)) (pv 4) (nomark _)) (fun σ H Q q => by
          obtain ⟨v, r, n, l, t, ps, e, y, g, e0, e1, hv, hr', R, _, hT, q⟩ := q
          obtain ⟨a, dx, vn, v0, v1, v2, v3, v4, v5, rfl, ha, hd⟩ := id hv
          obtain ⟨ew, er⟩ := r_none R
          have ROK : RowOk (rowOf n l t ps e y g) := ⟨_, _, _, _, _, _, _, rfl, R⟩
          refine ⟨_, e0, a, dx, _, rfl, ha, rfl, rfl, ch_yes hv R .nil rfl ew er (fun v' H1 s1 hp1 => ⟨v', _, rfl, hp1, fun r1 xs1 hr1 hx1 => ?_⟩)⟩
          have s2 : Same H (upd H1 r1 (.lst xs1)) := s1.trans (Same.new' hr1)
          have d1 : Dq K (upd H1 r1 (.lst xs1)) (.ref r1) (.list (rowOf n l t ps e y g)) := .lst (SqL.of upd_same) (hx1.up (Same.new' hr1))
          refine ⟨_, e1, .list (rowOf n l t ps e y g), .list (rowOf n l t ps e y g), d1.dp ROK.fine.nd, (hr'.up s2).dp ROK.fine.nd, ROK.shl, ROK.shl, _, rfl, ?_⟩
          rw [eqv_refl _ ROK.fine.nd]
          exact q _ (ExtN.of s2) (hT.ext s2))) (pw_or1 (PT.imp (t' := tF K C T 3 4 (fun _ => True)) (pt_cmpR op_ne (pe_prop (by exact pe_methKw (E := fun _ => E0) (pv 3) TC.cl MCh Z.cL hr7 passLS (pk_cons pe_int pk_nil)) TC.cl G.p_limit G.f_limit hr2 G.b_limit .nil pass0 rfl) pe_int (nomark _)) (fun σ H Q q => by
          obtain ⟨v, r, n, l, t, ps, e, y, g, e0, e1, hv, hr', R, _, hT, q⟩ := q
          obtain ⟨a, dx, vn, v0, v1, v2, v3, v4, v5, rfl, ha, hd⟩ := id hv
          obtain ⟨ew, er⟩ := r_limit R
          refine ⟨_, e0, a, dx, _, rfl, ha, rfl, rfl, ch_yes hv R (.cons (.int 7) .nil) rfl ew er (fun v' H1 s1 hp1 => ?_)⟩
          obtain ⟨a', dx', vn', w0, w1, w2, w3, w4, w5, rfl, ha', hd'⟩ := hp1
          obtain ⟨_, _, _, _, _, _, _, ee', _, k0, _⟩ := dqA7 hd'
          cases ee'
          obtain rfl := dq_int k0
          refine ⟨a', dx', _, rfl, ha', a', dx', _, .int 7, rfl, ha', rfl, rfl, _, rfl, ?_⟩
          rw [decide_eq_true rfl]
          exact q _ (ExtN.of s1) (hT.ext s1)))))) (pss_one (ps_ret pe_bl)) pss_nil)
        (pss_cons (ps_set (i := 5) sc_law.nd rfl (Or.inl rfl) (pe_op op_cat (pe_slice sl_list (pv 4) po_none (po_some pe_int)) (pe_lst (pa_cons (pe_not (pe_ix ix_list (pv 4) pe_int (fun _ _ => rfl))) (pa_cons (pl_tup (pla_cons pl_str (pla_cons pl_int pla_nil))) pa_nil)))))
        (pss_cons (ps_if (pt_cmpR op_ne (pe_callB (id := "repr") (r := rRepr K) (by exact call_repr hgd hu) (by rfl) M.repr (by decide +kernel) (pa_cons (pe_call FO hr3 rfl mO GO.kp bO .nil pass0 (pa_cons (by exact pe_methKw (E := fun _ => E0) (pv 3) TC.cl MCh Z.cEL hr7 passLS (pk_cons (pl_tup (pla_cons pl_str (pla_cons pl_int pla_nil))) (pk_cons (pe_not (pe_ix ix_list (pv 4) pe_int (fun _ _ => rfl))) pk_nil))) pa_nil)) pa_nil)) (pe_callB (id := "repr") (r := rRepr K) (by exact call_repr hgd hu) (by rfl) M.repr (by decide +kernel) (pa_cons (pv 5) pa_nil)) (nomark _)) (pss_one (ps_ret pe_bl)) pss_nil)
        (pss_cons (ps_if (pt_not (pt_val (pe_callG FR hgd hr rfl mR GR.kp bR .nil pass0 (pa_cons (pv 3) (pa_cons (pv 4) pa_nil))))) (pss_one (ps_ret pe_bl)) pss_nil)
        (pss_cons (ps_if (PT.imp (t' := tF K C T 3 4 (fun _ => True)) (pt_cmpR op_ne (by exact pe_lamW (t := fun E => tMethKw C "changed" (["name"] : List Str).length (spCh K C CP ["name"]) (fun _ => E) (tVar 3) (tCons (tC (.str "b")) tNil)) (T := T) (TT := TTold CP) (x := "_law_told") (a := "_law_call") (Ng := ["_law_call", "e"]) rfl mT GT bT sc_law_told rfl (.inl rfl) (fun cdv => told_gives TP) TB hcode hmT huT hr9 (lamS_by (sc := defScope s_law) (by decide +kernel)) rfl (fun _ _ _ _ _ => rfl) (fun A outer s H E f c' hr' => by exact PE.imp (pe_methKw (X := lamCx _ A outer s H E _ f c') (E := fun _ => E) (pv 3) TC.cl MCh Z.cN hr' (fun σ => passAt (takes_of rfl rfl rfl rfl) σ) (pk_cons pe_str pk_nil)) (fun _ _ _ q => q))) pe_str (nomark _)) (fun σ H Q q => by
          obtain ⟨v, r, n, l, t, ps, e, y, g, e0, e1, hv, hr', R, _, hT, q⟩ := q
          obtain ⟨a, dx, vn, v0, v1, v2, v3, v4, v5, rfl, ha, hd⟩ := id hv
          refine ⟨hT, fun H1 e2 T1 => ?_⟩
          have hv1 := IsPol.upN e2 hv
          refine ⟨_, e0, a, dx, _, rfl, e2 _ _ ha (fun _ z => nomatch z), rfl, ?_⟩
          refine ⟨rfl, ch_kw hv1 R (.cons (.str "b" (by decide)) .nil) (by decide +kernel) (fun H2 x s2 hx => ⟨rfl, x, .str "name", rfl, upd_same, ⟨rfl, _, rfl, ?_⟩⟩)⟩
          rw [decide_eq_true rfl]
          have s3 : Same H1 (upd H2 x (.xd [("field", .str "name")])) := s2.trans (Same.new' hx)
          exact q _ (e2.trans (ExtN.of (s3))) (T1.ext (s3)))) (pss_one (ps_ret pe_bl)) pss_nil)
        (pss_cons (ps_if (PT.imp (t' := tF K C T 3 4 (fun _ => True)) (pt_cmpR op_ne (by exact pe_lamW (t := fun E => tMethKw C "changed" (["limit", "limits", "name"] : List Str).length (spCh K C CP ["limit", "limits", "name"]) (fun _ => E) (tVar 3) (tCons (tC (.int 0)) (tCons (tC (.int 3)) (tCons (tC (.str "b")) tNil)))) (T := T) (TT := TTold CP) (x := "_law_told") (a := "_law_call") (Ng := ["_law_call", "e"]) rfl mT GT bT sc_law_told rfl (.inl rfl) (fun cdv => told_gives TP) TB hcode hmT huT hr9 (lamS_by (sc := defScope s_law) (by decide +kernel)) rfl (fun _ _ _ _ _ => rfl) (fun A outer s H E f c' hr' => by exact PE.imp (pe_methKw (X := lamCx _ A outer s H E _ f c') (E := fun _ => E) (pv 3) TC.cl MCh Z.cLN hr' (fun σ => passAt (takes_of rfl rfl rfl rfl) σ) (pk_cons pe_int (pk_cons pe_int (pk_cons pe_str pk_nil)))) (fun _ _ _ q => q))) pe_str (nomark _)) (fun σ H Q q => by
          obtain ⟨v, r, n, l, t, ps, e, y, g, e0, e1, hv, hr', R, _, hT, q⟩ := q
          obtain ⟨a, dx, vn, v0, v1, v2, v3, v4, v5, rfl, ha, hd⟩ := id hv
          refine ⟨hT, fun H1 e2 T1 => ?_⟩
          have hv1 := IsPol.upN e2 hv
          refine ⟨_, e0, a, dx, _, rfl, e2 _ _ ha (fun _ z => nomatch z), rfl, ?_⟩
          refine ⟨rfl, ch_kw hv1 R (.cons (.int 0) (.cons (.int 3) (.cons (.str "b" (by decide)) .nil))) (by decide +kernel) (fun H2 x s2 hx => ⟨rfl, x, .str "limits", rfl, upd_same, ⟨rfl, _, rfl, ?_⟩⟩)⟩
          rw [decide_eq_true rfl]
          have s3 : Same H1 (upd H2 x (.xd [("field", .str "limits")])) := s2.trans (Same.new' hx)
          exact q _ (e2.trans (ExtN.of (s3))) (T1.ext (s3)))) (pss_one (ps_ret pe_bl)) pss_nil)
        (pss_cons (ps_if (PT.imp (t' := tF K C T 3 4 (fun _ => True)) (pt_cmpR op_ne (by exact pe_lamW (t := fun E => tMethKw C "changed" (["limit"] : List Str).length (spCh K C CP ["limit"]) (fun _ => E) (tVar 3) (tCons (tC (.int 0)) tNil)) (T := T) (TT := TTold CP) (x := "_law_told") (a := "_law_call") (Ng := ["_law_call", "e"]) rfl mT GT bT sc_law_told rfl (.inl rfl) (fun cdv => told_gives TP) TB hcode hmT huT hr9 (lamS_by (sc := defScope s_law) (by decide +kernel)) rfl (fun _ _ _ _ _ => rfl) (fun A outer s H E f c' hr' => by exact PE.imp (pe_methKw (X := lamCx _ A outer s H E _ f c') (E := fun _ => E) (pv 3) TC.cl MCh Z.cL hr' (fun σ => passAt (takes_of rfl rfl rfl rfl) σ) (pk_cons pe_int pk_nil)) (fun _ _ _ q => q))) pe_str (nomark _)) (fun σ H Q q => by
          obtain ⟨v, r, n, l, t, ps, e, y, g, e0, e1, hv, hr', R, _, hT, q⟩ := q
          obtain ⟨a, dx, vn, v0, v1, v2, v3, v4, v5, rfl, ha, hd⟩ := id hv
          refine ⟨hT, fun H1 e2 T1 => ?_⟩
          have hv1 := IsPol.upN e2 hv
          refine ⟨_, e0, a, dx, _, rfl, e2 _ _ ha (fun _ z => nomatch z), rfl, ?_⟩
          refine ⟨rfl, ch_no hv1 R (.cons (.int 0) .nil) rfl (w_limit R) (fun H2 x s2 hx => ⟨rfl, x, .str "limit", rfl, upd_same, ⟨rfl, _, rfl, ?_⟩⟩)⟩
          rw [decide_eq_true rfl]
          have s3 : Same H1 (upd H2 x (.xd [("field", .str "limit")])) := s2.trans (Same.new' hx)
          exact q _ (e2.trans (ExtN.of (s3))) (T1.ext (s3)))) (pss_one (ps_ret pe_bl)) pss_nil)
        (pss_cons (ps_if (PT.imp (t' := tF K C T 3 4 (fun _ => True)) (pt_cmpR op_ne (by exact pe_lamW (t := fun E => tMethKw C "changed" (["tries"] : List Str).length (spCh K C CP ["tries"]) (fun _ => E) (tVar 3) (tCons (tC (.int 4)) tNil)) (T := T) (TT := TTold CP) (x := "_law_told") (a := "_law_call") (Ng := ["_law_call", "e"]) rfl mT GT bT sc_law_told rfl (.inl rfl) (fun cdv => told_gives TP) TB hcode hmT huT hr9 (lamS_by (sc := defScope s_law) (by decide +kernel)) rfl (fun _ _ _ _ _ => rfl) (fun A outer s H E f c' hr' => by exact PE.imp (pe_methKw (X := lamCx _ A outer s H E _ f c') (E := fun _ => E) (pv 3) TC.cl MCh Z.cT hr' (fun σ => passAt (takes_of rfl rfl rfl rfl) σ) (pk_cons pe_int pk_nil)) (fun _ _ _ q => q))) pe_str (nomark _)) (fun σ H Q q => by
          obtain ⟨v, r, n, l, t, ps, e, y, g, e0, e1, hv, hr', R, _, hT, q⟩ := q
          obtain ⟨a, dx, vn, v0, v1, v2, v3, v4, v5, rfl, ha, hd⟩ := id hv
          refine ⟨hT, fun H1 e2 T1 => ?_⟩
          have hv1 := IsPol.upN e2 hv
          refine ⟨_, e0, a, dx, _, rfl, e2 _ _ ha (fun _ z => nomatch z), rfl, ?_⟩
          refine ⟨rfl, ch_no hv1 R (.cons (.int 4) .nil) rfl (w_tries4 R) (fun H2 x s2 hx => ⟨rfl, x, .str "tries", rfl, upd_same, ⟨rfl, _, rfl, ?_⟩⟩)⟩
          rw [decide_eq_true rfl]
          have s3 : Same H1 (upd H2 x (.xd [("field", .str "tries")])) := s2.trans (Same.new' hx)
          exact q _ (e2.trans (ExtN.of (s3))) (T1.ext (s3)))) (pss_one (ps_ret pe_bl)) pss_nil)
        (pss_cons (ps_if (PT.imp (t' := tF K C T 3 4 (fun _ => True)) (pt_cmpR op_ne (by exact pe_lamW (t := fun E => tMethKw C "changed" (["lossy"] : List Str).length (spCh K C CP ["lossy"]) (fun _ => E) (tVar 3) (tCons (tC (.int 1)) tNil)) (T := T) (TT := TTold CP) (x := "_law_told") (a := "_law_call") (Ng := ["_law_call", "e"]) rfl mT GT bT sc_law_told rfl (.inl rfl) (fun cdv => told_gives TP) TB hcode hmT huT hr9 (lamS_by (sc := defScope s_law) (by decide +kernel)) rfl (fun _ _ _ _ _ => rfl) (fun A outer s H E f c' hr' => by exact PE.imp (pe_methKw (X := lamCx _ A outer s H E _ f c') (E := fun _ => E) (pv 3) TC.cl MCh Z.cY hr' (fun σ => passAt (takes_of rfl rfl rfl rfl) σ) (pk_cons pe_int pk_nil)) (fun _ _ _ q => q))) pe_str (nomark _)) (fun σ H Q q => by
          obtain ⟨v, r, n, l, t, ps, e, y, g, e0, e1, hv, hr', R, _, hT, q⟩ := q
          obtain ⟨a, dx, vn, v0, v1, v2, v3, v4, v5, rfl, ha, hd⟩ := id hv
          refine ⟨hT, fun H1 e2 T1 => ?_⟩
          have hv1 := IsPol.upN e2 hv
          refine ⟨_, e0, a, dx, _, rfl, e2 _ _ ha (fun _ z => nomatch z), rfl, ?_⟩
          refine ⟨rfl, ch_no hv1 R (.cons (.int 1) .nil) rfl (w_lossy R) (fun H2 x s2 hx => ⟨rfl, x, .str "lossy", rfl, upd_same, ⟨rfl, _, rfl, ?_⟩⟩)⟩
          rw [decide_eq_true rfl]
          have s3 : Same H1 (upd H2 x (.xd [("field", .str "lossy")])) := s2.trans (Same.new' hx)
          exact q _ (e2.trans (ExtN.of (s3))) (T1.ext (s3)))) (pss_one (ps_ret pe_bl)) pss_nil)
        (pss_one (ps_if (PW.pt (pw_or (PT.imp (t' := tF K C T 3 4 (fun _ => True)) (pt_cmpR op_ne (by exact pe_lamW (t := fun E => tMethKw C "changed" (["ending"] : List Str).length (spCh K C CP ["ending"]) (fun _ => E) (tVar 3) (tCons (tLit K (.tuple [])) tNil)) (T := T) (TT := TTold CP) (x := "_law_told") (a := "_law_call") (Ng := ["_law_call", "e"]) rfl mT GT bT sc_law_told rfl (.inl rfl) (fun cdv => told_gives TP) TB hcode hmT huT hr9 (lamS_by (sc := defScope s_law) (by decide +kernel)) rfl (fun _ _ _ _ _ => rfl) (fun A outer s H E f c' hr' => by exact PE.imp (pe_methKw (X := lamCx _ A outer s H E _ f c') (E := fun _ => E) (pv 3) TC.cl MCh Z.cG hr' (fun σ => passAt (takes_of rfl rfl rfl rfl) σ) (pk_cons (pl_tup pla_nil) pk_nil)) (fun _ _ _ q => q))) pe_str (nomark _)) (fun σ H Q q => by
          obtain ⟨v, r, n, l, t, ps, e, y, g, e0, e1, hv, hr', R, _, hT, q⟩ := q
          obtain ⟨a, dx, vn, v0, v1, v2, v3, v4, v5, rfl, ha, hd⟩ := id hv
          refine ⟨hT, fun H1 e2 T1 => ?_⟩
          have hv1 := IsPol.upN e2 hv
          refine ⟨_, e0, a, dx, _, rfl, e2 _ _ ha (fun _ z => nomatch z), rfl, ?_⟩
          intro vt H0 s0 dt
          refine ⟨rfl, ch_no (hv1.up s0) R (.cons (dt.up newOf_in) .nil) rfl (w_ending R) (fun H2 x s2 hx => ⟨rfl, x, .str "ending", rfl, upd_same, ⟨rfl, _, rfl, ?_⟩⟩)⟩
          rw [decide_eq_true rfl]
          have s3 : Same H0 (upd H2 x (.xd [("field", .str "ending")])) := s2.trans (Same.new' hx)
          exact q _ (e2.trans (ExtN.of (s0.trans s3))) (T1.ext (s0.trans s3)))) (pw_or1 (PT.imp (t' := tF K C T 3 4 (fun _ => True)) (pt_cmpR (op_neD hu) (pe_call FO hr3 rfl mO GO.kp bO .nil pass0 (pa_cons (pv 3) pa_nil)) (pv 4) (nomark _)) (fun σ H Q q => by
          obtain ⟨v, r, n, l, t, ps, e, y, g, e0, e1, hv, hr', R, _, hT, q⟩ := q
          obtain ⟨a, dx, vn, v0, v1, v2, v3, v4, v5, rfl, ha, hd⟩ := id hv
          have ROK : RowOk (rowOf n l t ps e y g) := ⟨_, _, _, _, _, _, _, rfl, R⟩
          refine ⟨_, e0, _, _, rfl, hv, fun r1 xs1 hr1 hx1 => ?_⟩
          have s2 : Same H (upd H r1 (.lst xs1)) := Same.new' hr1
          have d1 : Dq K (upd H r1 (.lst xs1)) (.ref r1) (.list (rowOf n l t ps e y g)) := .lst (SqL.of upd_same) (hx1.up (Same.new' hr1))
          refine ⟨_, e1, .list (rowOf n l t ps e y g), .list (rowOf n l t ps e y g), d1.dp ROK.fine.nd, (hr'.up s2).dp ROK.fine.nd, ROK.shl, ROK.shl, _, rfl, ?_⟩
          rw [eqv_refl _ ROK.fine.nd]
          exact q _ (ExtN.of s2) (hT.ext s2)))))) (pss_one (ps_ret pe_bl)) pss_nil)))))))))))))))
      (pss_one (ps_ret pe_bl))), ?_⟩
    have hJ : ∀ L : Int, 1 ≤ (if (if (8 : Int) < L then 8 else L) > 1 then (if (8 : Int) < L then 8 else L) else 1) ∧ (if (if (8 : Int) < L then 8 else L) > 1 then (if (8 : Int) < L then 8 else L) else 1) ≤ 8 := fun L => by
      split <;> split <;> omega
    refine ⟨_, rfl, _, (ns.map V.int).length, rfl, .inl ⟨_, hS, rfl⟩, _, _, rfl, _, _, rfl, _, rfl, (by have := (hJ ((ns.map V.int).length : Int)).1; omega), (by have := (hJ ((ns.map V.int).length : Int)).2; omega), for_range
      (fun _ σ Hc => ExtN H Hc ∧ Tabs T Hc ∧ ∃ o1 o2 o3 o4 o5, σ = [some (.ref a), o1, o2, o3, o4, o5]) ⟨ExtN.refl H, hT, _, _, _, _, _, rfl⟩ ?_ ?_⟩
    · rintro i σ Hc hi ⟨ec, hTc, o1, o2, o3, o4, o5, rfl⟩
      have hi8 : i < 8 := by
        have := (hJ ((ns.map V.int).length : Int)).2
        omega
      refine ⟨_, rfl, _, rfl, a, ns, _, rfl, SqL.upN ec hS, by omega, by omega, by omega, fun p c z hp hz0 hz1 => ?_⟩
      refine ⟨_, rfl, p, "a", 20, rfl, IsPool.of hz0 hz1, by simp [nmsL], by decide, by decide, fun v l t ps e y g H1 s1 P1 hv1 R => ?_⟩
      have sc1 : Same Hc H1 := fun b o hb => hid_in _ _ (s1 b o (by rw [hid_upd]; unfold hid; rw [if_neg (ne_of_none hb hp)]; exact hb))
      refine ⟨_, rfl, v, _, rfl, hv1, fun r xs hr0 hx => ?_⟩
      have s12 : Same H1 (upd H1 r (.lst xs)) := Same.new' hr0
      have hS2 : upd H1 r (.lst xs) r = some (.lst xs) := upd_same
      have sc2 := sc1.trans s12
      have hv2 := hv1.up s12
      have hx2 := hx.up s12
      generalize upd H1 r (.lst xs) = H2 at s12 hS2 sc2 hv2 hx2 ⊢
      have hr2 : Dq K H2 (.ref r) (.list (rowOf "a" l t ps e y g)) := .lst (SqL.of hS2) hx2
      have ROK : RowOk (rowOf "a" l t ps e y g) := ⟨_, _, _, _, _, _, _, rfl, R⟩
      have hT2 := hTc.ext sc2
      refine ⟨v, .ref r, "a", l, t, ps, e, y, g, rfl, rfl, hv2, hr2, R, trivial, hT2, fun H3 e3 T3 => iteF ?_⟩
      have hv3 := IsPol.upN e3 hv2
      have hr3 := Dq.upN e3 hr2
      refine ⟨v, .ref r, "a", l, t, ps, e, y, g, rfl, rfl, hv3, hr3, R, trivial, T3, fun H4 e4 T4 => iteF ?_⟩
      have hv4 := IsPol.upN e4 hv3
      have hr4 := Dq.upN e4 hr3
      have e24 := e3.trans e4
      have hS4 : SqL K H4 r xs := SqL.upN e24 (SqL.of hS2)
      have hx4 := DqA.upN e24 hx2
      obtain ⟨u0, u1, u2, u3, u4, u5, u6, rfl, z0, z1, z2, z3, z4, z5, z6⟩ := dqA_inv7 hx4
      cases z5
      obtain ⟨ew, er, R2⟩ := r_el R
      have F2 : RowOk (rowOf "a" l t ps e (!y) (.tuple [.str "stop", .int 3])) := ⟨_, _, _, _, _, _, _, rfl, R2⟩
      refine ⟨_, rfl, _, rfl, r, _, rfl, hS4, fun p1 hp1 => ?_⟩
      have t1 : Same H4 (upd H4 p1 (.lst (cutV [u0, u1, u2, u3, u4, .bl y, u6] none (some (5 : Int))))) := Same.new' hp1
      refine ⟨_, rfl, r, _, 5, .bl y, rfl, rfl, t1.seq hS4, rfl, _, rfl, ?_⟩
      intro vg H5 t5 dg
      refine ⟨(by show 2 ≤ sizeLine; decide), fun p2 hp2 => ?_⟩
      have t6 := t5.trans (Same.new' (o := .lst [.bl (!y), vg]) hp2)
      refine ⟨p1, p2, _, _, rfl, rfl, t6 _ _ upd_same, upd_same, (by show 5 + 2 ≤ sizeLine; decide), fun p3 hp3 => ?_⟩
      have t7 := (Same.new' (o := .lst [.bl (!y), vg]) hp2).trans (Same.new' (o := .lst (cutV [u0, u1, u2, u3, u4, .bl y, u6] none (some (5 : Int)) ++ [.bl (!y), vg])) hp3)
      have sD := (t1.trans t5).trans t7
      have DD : Dq K (upd (upd H5 p2 (.lst [.bl (!y), vg])) p3 (.lst (cutV [u0, u1, u2, u3, u4, .bl y, u6] none (some (5 : Int)) ++ [.bl (!y), vg]))) (.ref p3) (.list (rowOf "a" l t ps e (!y) (.tuple [.str "stop", .int 3]))) :=
        .lst (SqL.of upd_same) (DqA.app (.cons (z0.up sD) (.cons (z1.up sD) (.cons (z2.up sD) (.cons (z3.up sD) (.cons (z4.up sD) .nil))))) (.cons (.bl _) (.cons ((dg.up newOf_in).up t7) .nil)))
      generalize upd (upd H5 p2 (.lst [.bl (!y), vg])) p3 (.lst (cutV [u0, u1, u2, u3, u4, .bl y, u6] none (some (5 : Int)) ++ [.bl (!y), vg])) = HD at sD DD ⊢
      obtain ⟨a', dx', vn', w0, w1, w2, w3, w4, w5, rfl, ha', hd'⟩ := id hv4
      refine ⟨_, rfl, a', dx', _, rfl, sD _ _ ha', rfl, ?_⟩
      intro vh H6 t8 dh
      refine ⟨_, rfl, r, _, 5, .bl y, rfl, rfl, (sD.trans t8).seq hS4, rfl, _, rfl, rfl, ch_yes (hv4.up (sD.trans t8)) R (.cons (dh.up newOf_in) (.cons (.bl _) .nil)) rfl ew er (fun v' H7 t9 hp7 => ⟨v', _, rfl, hp7, fun r1 xs1 hr1 hx1 => ?_⟩)⟩
      (try simp only [tNil, tC])
      refine rep (d := .list (rowOf "a" l t ps e (!y) (.tuple [.str "stop", .int 3]))) (.lst (SqL.of upd_same) (hx1.up (Same.new' hr1))) F2.fine ?_
      have t10 : Same HD (upd H7 r1 (.lst xs1)) := (t8.trans t9).trans (Same.new' hr1)
      refine ⟨_, rfl, ?_⟩
      (try simp only [tNil, tC])
      refine rep (DD.up t10) F2.fine ?_
      refine ⟨rfl, _, rfl, iteNY rfl ?_⟩
      have s4E := sD.trans t10
      generalize upd H7 r1 (.lst xs1) = HE at s4E ⊢
      have hvE := hv4.up s4E
      have hrE := hr4.up s4E
      have TE := T4.ext s4E
      refine ⟨_, rfl, _, rfl, _, _, _, _, _, _, _, _, _, rfl, hvE, hrE, R, TE, fun H8 e8 T8 => ⟨_, rfl, iteF ?_⟩⟩
      have hv8 := IsPol.upN e8 hvE
      have hr8 := Dq.upN e8 hrE
      refine ⟨_, _, "a", l, t, ps, e, y, g, rfl, rfl, hv8, hr8, R, trivial, T8, fun H9 e9 T9 => iteF ?_⟩
      have hv9 := IsPol.upN e9 hv8
      have hr9' := Dq.upN e9 hr8
      refine ⟨_, _, "a", l, t, ps, e, y, g, rfl, rfl, hv9, hr9', R, trivial, T9, fun H10 e10 T10 => iteF ?_⟩
      have hv10 := IsPol.upN e10 hv9
      have hr10 := Dq.upN e10 hr9'
      refine ⟨_, _, "a", l, t, ps, e, y, g, rfl, rfl, hv10, hr10, R, trivial, T10, fun H11 e11 T11 => iteF ?_⟩
      have hv11 := IsPol.upN e11 hv10
      have hr11 := Dq.upN e11 hr10
      refine ⟨_, _, "a", l, t, ps, e, y, g, rfl, rfl, hv11, hr11, R, trivial, T11, fun H12 e12 T12 => iteF ?_⟩
      have hv12 := IsPol.upN e12 hv11
      have hr12 := Dq.upN e12 hr11
      refine ⟨_, _, "a", l, t, ps, e, y, g, rfl, rfl, hv12, hr12, R, trivial, T12, fun H13 e13 T13 => iteF ?_⟩
      have hv13 := IsPol.upN e13 hv12
      have hr13 := Dq.upN e13 hr12
      refine ⟨_, _, "a", l, t, ps, e, y, g, rfl, rfl, hv13, hr13, R, trivial, T13, fun H14 e14 T14 => iteF ?_⟩
      have hv14 := IsPol.upN e14 hv13
      have hr14 := Dq.upN e14 hr13
      refine ⟨_, _, "a", l, t, ps, e, y, g, rfl, rfl, hv14, hr14, R, trivial, T14, fun H15 e15 T15 => iteF ?_⟩
      have all := ((((((((((ec.trans (ExtN.of sc2)).trans e24).trans (ExtN.of s4E)).trans e8).trans e9).trans e10).trans e11).trans e12).trans e13).trans e14).trans e15
      exact ⟨all, T15, _, _, _, _, _, rfl⟩
    · rintro σ Hc ⟨_, _, o1, o2, o3, o4, o5, rfl⟩
      exact q Hc
end
end K04
namespace K04
open PySem PySem.Spec PyProof.Rows L2 StX LamX
/-! ### the head: facts by names, the run -/
abbrev gd (x : Str) (st : Stmt) : He.DefD := ⟨(x, none), x, x, defArgs st, defBody st, defScope st, [], []⟩
abbrev md (m : Str) (q : Str) (st : Stmt) : He.DefD := ⟨("Policy", some m), m, q, defArgs st, defBody st, defScope st, [], []⟩
def endA (K : PySem.W.Frag) : Addr := match K.lookup (He.ma K (He.ga K "Policy") "__init__") with
  | some ⟨_, _, .func fd, _⟩ => (match fd.kwdefaults with
    | .ref D => (match PySem.W.nsIn K D "ending" with
      | some (some (.ref a)) => a
      | _ => 0)
    | _ => 0)
  | _ => 0
abbrev pd : He.DefD := ⟨("Policy", some "__init__"), "__init__", "Policy.__init__", defArgs s_Policy_init, defBody s_Policy_init, defScope s_Policy_init, [], [("tries", .int 1), ("pauses", .non), ("early", .non), ("lossy", .bl false), ("ending", .adr endA)]⟩
def fn : List He.DefD := [gd "is_integer" s_is_integer, gd "is_between" s_is_between, gd "is_name" s_is_name, gd "is_ending" s_is_ending, gd "are_pauses" s_are_pauses, gd "wrong_field" s_wrong_field, gd "_law_pool" s_law_pool, gd "_law_draw" s_law_draw, gd "_law_choose" s_law_choose, gd "_law_policy" s_law_policy, gd "_law_fields_of" s_law_fields_of, gd "_law_told" s_law_told, gd "_law_pauses_right" s_law_pauses_right, gd "law" s_law, pd, md "changed" "Policy.changed" s_Policy_changed, md "fields" "Policy.fields" s_Policy_fields]
def fa : List He.Fa := [.glo "is_integer", .glo "is_between", .glo "is_name", .glo "is_ending", .glo "are_pauses", .glo "wrong_field", .glo "_law_pool", .glo "_law_draw", .glo "_law_choose", .glo "_law_policy", .glo "_law_fields_of", .glo "_law_told", .glo "_law_pauses_right", .glo "law", .glo "Policy", .glo "FIELDS", .free "len", .free "isinstance", .free "int", .free "bool", .free "str", .free "all", .free "tuple", .free "max", .free "min", .free "range", .free "repr", .free "dict", .free "zip", .int "MAX_LIMIT" 20, .int "MAX_TRIES" 3, .int "MAX_PAUSE" 8, .int "MAX_DELAY" 20, .int "MAX_LETTERS" 8, .str "LETTERS" "abcdefghijklmnopqrstuvwxyz", .str "GO" "go", .str "STOP" "stop", .str "DEADLINE" "deadline", .cls "Policy", .mkr "Policy", .noat "Policy" "own_name", .noat "Policy" "own_limit", .noat "Policy" "own_tries", .noat "Policy" "own_pauses", .noat "Policy" "own_early", .noat "Policy" "own_lossy", .noat "Policy" "own_ending", .meth "Policy" "changed", .meth "Policy" "fields"]
def xN : MCH.XD := ⟨"InvalidName", "value", inClass (top 2) 0⟩
def xP : MCH.XD := ⟨"InvalidPolicy", "field", inClass (top 3) 0⟩
def pp (x : Str) (q : Str) (i : Nat) : MCH.PD := ⟨"Policy", x, q, inClass (top 22) i⟩
def pps : List MCH.PD := [pp "name" "Policy.name" 1, pp "limit" "Policy.limit" 2, pp "tries" "Policy.tries" 3, pp "pauses" "Policy.pauses" 4, pp "early" "Policy.early" 5, pp "lossy" "Policy.lossy" 6, pp "ending" "Policy.ending" 7]
def tfs : List He.Defn := [("_law_pauses_right", none), ("law", none)]
def ex0 (K : PySem.W.Frag) : Bool := He.tupB K "FIELDS" (fieldsK.map He.Dv.str) && decide ((He.cT K ("_law_pauses_right", none)).2 ≠ (He.cT K ("law", none)).2)
abbrev R : PySem.W.OpenRow := PySem.W.OpenLaw.row PySem.Challenge.rw_mostcalls_k04_policies_changed
abbrev hk : PySem.W.Hook := MCH.hookO 7 R.prog fa fn [xN, xP] pps tfs ex0
def ob (s : PySem.W.SharedT) : MCH.AlO := MCH.obsO 7 R.prog fa fn [xN, xP] pps tfs ex0 (HandSHeadRun.getT s)
theorem ob_eq (s : PySem.W.SharedT) : ob s = hk.obs s.abs := MCH.obsO_eq (HandSHeadRun.getT_eq s)
def names : List Str := ["_wall", "InvalidName", "InvalidPolicy", "LETTERS", "MAX_LETTERS", "is_integer", "is_between", "is_name", "MAX_LIMIT", "MAX_TRIES", "MAX_PAUSE", "MAX_DELAY", "FIELDS", "GO", "STOP", "DEADLINE", "is_ending", "are_pauses", "wrong_field", "Policy", "_law_pool", "_law_draw", "_law_choose", "_law_policy", "_law_fields_of", "_law_told", "_law_pauses_right"]
theorem run (w : World) : HandSHeadRun.RunEq R (PySem.W.view R.prog [31]) hk ob 6000 names w := by
  intro os
  kernel_rfl

theorem getter {P : Program} {w : World} {K : PySem.W.Frag} {mg : Str → Option Value} {base : Heap} {f C : Addr} {fd : FuncData} {x q fld : Str} {sm : Stmt} {p1 p2 p3 : Pos} (F : FunD K x q (defArgs sm) (defBody sm) (defScope sm) [] [] f fd) (S : FnScope ["self"] ["self"] (defScope sm))
    (hb : defBody sm = [.Return (some (.Attribute (.Name "self" p1) fld p2)) p3]) (c : Cls K C) (n : NoAttr K C fld) : FnOk P w K mg base CX0 1 f fd ["self"] (getSp C fld) := by
  obtain ⟨oc, od, dV, kV, doc, pm, an, cdv, ct, osl, rfl, lk, hcd, _, _⟩ := F.ex
  exact fn_getter lk hcd S rfl hb c n
theorem code_at {K : PySem.W.Frag} {x : Str} {st : Stmt} {fd : FuncData} (F : FnP K x st (He.fAd K (x, none)) fd) : fd.code = .ref (He.cT K (x, none)).1 := by
  obtain ⟨oc, od, dV, kV, doc, pm, an, cdv, ct, osl, rfl, lk, hcd, _, _⟩ := F.ex
  obtain ⟨c, rfl⟩ := He.codeIn_ref hcd
  show Value.ref c = _
  rw [show (He.cT K (x, none)).1 = c from He.codeOf_eq lk rfl]
abbrev css (K : PySem.W.Frag) : List (Addr × Addr) := tfs.map (He.cT K)
abbrev TT0 (K : PySem.W.Frag) : List (Addr × Str) := [((He.cT K ("_law_pauses_right", none)).2, qOf "_law_pauses_right"), ((He.cT K ("law", none)).2, qOf "law")]
theorem facts {w : World} {K : PySem.W.Frag} {h : Heap} {mg : Str → Option Value} {f : Addr} (X : K.In h) (G : h.Ns mainGlobals mg) (hfa : mg ("law" : Str) = some (.ref f)) (c : MCH.SaysO R.prog fa fn [xN, xP] pps tfs ex0 h K) :
    ∃ fd : FuncData, (∀ (s : Shared) (v : Value), BindsTo s fd ⟨[v], []⟩ [("_law_script", v)]) ∧ ∀ base : Heap, K.In base → base.Ns mainGlobals mg → (∀ p ∈ css K, LamX.TabB base mg p.1 p.2) → FnG R.prog w K mg base CX0 11 f fd ["_law_script"] (spLaw K (TT0 K)) := by
  obtain ⟨e0, F0⟩ := c.p.m.d.def_ 0 (d := gd "is_integer" s_is_integer) rfl
  obtain ⟨e1, F1⟩ := c.p.m.d.def_ 1 (d := gd "is_between" s_is_between) rfl
  obtain ⟨e2, F2⟩ := c.p.m.d.def_ 2 (d := gd "is_name" s_is_name) rfl
  obtain ⟨e3, F3⟩ := c.p.m.d.def_ 3 (d := gd "is_ending" s_is_ending) rfl
  obtain ⟨e4, F4⟩ := c.p.m.d.def_ 4 (d := gd "are_pauses" s_are_pauses) rfl
  obtain ⟨e5, F5⟩ := c.p.m.d.def_ 5 (d := gd "wrong_field" s_wrong_field) rfl
  obtain ⟨e6, F6⟩ := c.p.m.d.def_ 6 (d := gd "_law_pool" s_law_pool) rfl
  obtain ⟨e7, F7⟩ := c.p.m.d.def_ 7 (d := gd "_law_draw" s_law_draw) rfl
  obtain ⟨e8, F8⟩ := c.p.m.d.def_ 8 (d := gd "_law_choose" s_law_choose) rfl
  obtain ⟨e9, F9⟩ := c.p.m.d.def_ 9 (d := gd "_law_policy" s_law_policy) rfl
  obtain ⟨e10, F10⟩ := c.p.m.d.def_ 10 (d := gd "_law_fields_of" s_law_fields_of) rfl
  obtain ⟨e11, F11⟩ := c.p.m.d.def_ 11 (d := gd "_law_told" s_law_told) rfl
  obtain ⟨e12, F12⟩ := c.p.m.d.def_ 12 (d := gd "_law_pauses_right" s_law_pauses_right) rfl
  obtain ⟨e13, F13⟩ := c.p.m.d.def_ 13 (d := gd "law" s_law) rfl
  obtain ⟨eI, FI⟩ := c.p.m.d.def_ 14 (d := pd) rfl
  obtain ⟨eC, FC⟩ := c.p.m.d.def_ 15 (d := md "changed" "Policy.changed" s_Policy_changed) rfl
  obtain ⟨eF, FF⟩ := c.p.m.d.def_ 16 (d := md "fields" "Policy.fields" s_Policy_fields) rfl
  obtain ⟨c0, d0⟩ := c.p.p (pp "name" "Policy.name" 1) (by simp [pps])
  obtain ⟨O0, g0, X0⟩ := MCH.pB_ok d0 c0
  obtain ⟨c1, d1⟩ := c.p.p (pp "limit" "Policy.limit" 2) (by simp [pps])
  obtain ⟨O1, g1, X1⟩ := MCH.pB_ok d1 c1
  obtain ⟨c2, d2⟩ := c.p.p (pp "tries" "Policy.tries" 3) (by simp [pps])
  obtain ⟨O2, g2, X2⟩ := MCH.pB_ok d2 c2
  obtain ⟨c3, d3⟩ := c.p.p (pp "pauses" "Policy.pauses" 4) (by simp [pps])
  obtain ⟨O3, g3, X3⟩ := MCH.pB_ok d3 c3
  obtain ⟨c4, d4⟩ := c.p.p (pp "early" "Policy.early" 5) (by simp [pps])
  obtain ⟨O4, g4, X4⟩ := MCH.pB_ok d4 c4
  obtain ⟨c5, d5⟩ := c.p.p (pp "lossy" "Policy.lossy" 6) (by simp [pps])
  obtain ⟨O5, g5, X5⟩ := MCH.pB_ok d5 c5
  obtain ⟨c6, d6⟩ := c.p.p (pp "ending" "Policy.ending" 7) (by simp [pps])
  obtain ⟨O6, g6, X6⟩ := MCH.pB_ok d6 c6
  have e := hfa.symm.trans (He.glo_ok X G (c.p.m.d.fact 13 (f := .glo "law") rfl))
  cases e
  obtain ⟨y1, y2⟩ := He.ba c.p.m.e
  have hne := of_decide_eq_true y2
  have B : Blt mg := { isi := (He.free_ok X G (c.p.m.d.fact 17 (f := .free "isinstance") rfl)), int := (He.free_ok X G (c.p.m.d.fact 18 (f := .free "int") rfl)), bool := (He.free_ok X G (c.p.m.d.fact 19 (f := .free "bool") rfl)), str := (He.free_ok X G (c.p.m.d.fact 20 (f := .free "str") rfl)), tuple := (He.free_ok X G (c.p.m.d.fact 22 (f := .free "tuple") rfl)), len := (He.free_ok X G (c.p.m.d.fact 16 (f := .free "len") rfl)), all := (He.free_ok X G (c.p.m.d.fact 21 (f := .free "all") rfl)), mxl := (He.int_ok X G (c.p.m.d.fact 33 (f := .int "MAX_LETTERS" 8) rfl)), mxp := (He.int_ok X G (c.p.m.d.fact 31 (f := .int "MAX_PAUSE" 8) rfl)), mxt := (He.int_ok X G (c.p.m.d.fact 30 (f := .int "MAX_TRIES" 3) rfl)), mxm := (He.int_ok X G (c.p.m.d.fact 29 (f := .int "MAX_LIMIT" 20) rfl)), mxd := (He.int_ok X G (c.p.m.d.fact 32 (f := .int "MAX_DELAY" 20) rfl)), go := (He.str_ok X G (c.p.m.d.fact 35 (f := .str "GO" "go") rfl)), stop := (He.str_ok X G (c.p.m.d.fact 36 (f := .str "STOP" "stop") rfl)), dead := (He.str_ok X G (c.p.m.d.fact 37 (f := .str "DEADLINE" "deadline") rfl)), let_ := (He.str_ok X G (c.p.m.d.fact 34 (f := .str "LETTERS" "abcdefghijklmnopqrstuvwxyz") rfl)) }
  have M : Blt2 mg := { range := (He.free_ok X G (c.p.m.d.fact 25 (f := .free "range") rfl)), max := (He.free_ok X G (c.p.m.d.fact 23 (f := .free "max") rfl)), min := (He.free_ok X G (c.p.m.d.fact 24 (f := .free "min") rfl)), repr := (He.free_ok X G (c.p.m.d.fact 26 (f := .free "repr") rfl)) }
  have htop : (R.prog.main.scope.names.lookup ("super" : Str)).isSome = false := by decide +kernel
  obtain ⟨xn1, xn2⟩ := c.p.m.x xN (by simp)
  obtain ⟨xp1, xp2⟩ := c.p.m.x xP (by simp)
  have TN := MCH.xB_ok X G xn1 xn2 PySem.MCX.fok_value htop rfl rfl rfl rfl
  have TP := MCH.xB_ok X G xp1 xp2 PySem.MCX.fok_field htop rfl rfl rfl rfl
  have TC : PolC K (He.ga K "Policy") := ⟨He.cls_ok (c.p.m.d.fact 38 (f := .cls "Policy") rfl), He.noat_ok (c.p.m.d.fact 40 (f := .noat "Policy" "own_name") rfl), He.noat_ok (c.p.m.d.fact 41 (f := .noat "Policy" "own_limit") rfl), He.noat_ok (c.p.m.d.fact 42 (f := .noat "Policy" "own_tries") rfl), He.noat_ok (c.p.m.d.fact 43 (f := .noat "Policy" "own_pauses") rfl), He.noat_ok (c.p.m.d.fact 44 (f := .noat "Policy" "own_early") rfl), He.noat_ok (c.p.m.d.fact 45 (f := .noat "Policy" "own_lossy") rfl), He.noat_ok (c.p.m.d.fact 46 (f := .noat "Policy" "own_ending") rfl)⟩
  have MI := He.mkr_ok (c.p.m.d.fact 39 (f := .mkr "Policy") rfl)
  have MCh := He.meth_ok (c.p.m.d.fact 47 (f := .meth "Policy" "changed") rfl)
  have MF := He.meth_ok (c.p.m.d.fact 48 (f := .meth "Policy" "fields") rfl)
  have b := FunD.bindsA (ps := ["_law_script"]) F13 fun _ _ _ _ _ _ us hl => match us, hl with | [_], _ => rfl
  refine ⟨e13, fun s v => b s [v] rfl, fun base _ _ hTB => ?_⟩
  have TB1 := hTB (He.cT K ("_law_pauses_right", none)) (by simp [css, tfs])
  have TB2 := hTB (He.cT K ("law", none)) (by simp [css, tfs])
  have Z : Getters R.prog w K mg base (He.ga K "Policy") (fun i => [MCH.ppa K (pp "name" "Policy.name" 1), MCH.ppa K (pp "limit" "Policy.limit" 2), MCH.ppa K (pp "tries" "Policy.tries" 3), MCH.ppa K (pp "pauses" "Policy.pauses" 4), MCH.ppa K (pp "early" "Policy.early" 5), MCH.ppa K (pp "lossy" "Policy.lossy" 6), MCH.ppa K (pp "ending" "Policy.ending" 7)].getD i 0) (fun i => [MCH.pga K (pp "name" "Policy.name" 1), MCH.pga K (pp "limit" "Policy.limit" 2), MCH.pga K (pp "tries" "Policy.tries" 3), MCH.pga K (pp "pauses" "Policy.pauses" 4), MCH.pga K (pp "early" "Policy.early" 5), MCH.pga K (pp "lossy" "Policy.lossy" 6), MCH.pga K (pp "ending" "Policy.ending" 7)].getD i 0) (fun i => [g0, g1, g2, g3, g4, g5, g6].getD i g0) :=
    { p_name := O0, f_name := getter X0 ⟨rfl, rfl, rfl, by decide +kernel, rfl, by decide +kernel, by decide +kernel⟩ rfl TC.cl TC.n_name, b_name := X0.bindsN fun _ _ _ _ _ _ us hl => match us, hl with | [_], _ => rfl, p_limit := O1, f_limit := getter X1 ⟨rfl, rfl, rfl, by decide +kernel, rfl, by decide +kernel, by decide +kernel⟩ rfl TC.cl TC.n_limit, b_limit := X1.bindsN fun _ _ _ _ _ _ us hl => match us, hl with | [_], _ => rfl, p_tries := O2, f_tries := getter X2 ⟨rfl, rfl, rfl, by decide +kernel, rfl, by decide +kernel, by decide +kernel⟩ rfl TC.cl TC.n_tries, b_tries := X2.bindsN fun _ _ _ _ _ _ us hl => match us, hl with | [_], _ => rfl, p_pauses := O3, f_pauses := getter X3 ⟨rfl, rfl, rfl, by decide +kernel, rfl, by decide +kernel, by decide +kernel⟩ rfl TC.cl TC.n_pauses, b_pauses := X3.bindsN fun _ _ _ _ _ _ us hl => match us, hl with | [_], _ => rfl, p_early := O4, f_early := getter X4 ⟨rfl, rfl, rfl, by decide +kernel, rfl, by decide +kernel, by decide +kernel⟩ rfl TC.cl TC.n_early, b_early := X4.bindsN fun _ _ _ _ _ _ us hl => match us, hl with | [_], _ => rfl, p_lossy := O5, f_lossy := getter X5 ⟨rfl, rfl, rfl, by decide +kernel, rfl, by decide +kernel, by decide +kernel⟩ rfl TC.cl TC.n_lossy, b_lossy := X5.bindsN fun _ _ _ _ _ _ us hl => match us, hl with | [_], _ => rfl, p_ending := O6, f_ending := getter X6 ⟨rfl, rfl, rfl, by decide +kernel, rfl, by decide +kernel, by decide +kernel⟩ rfl TC.cl TC.n_ending, b_ending := X6.bindsN fun _ _ _ _ _ _ us hl => match us, hl with | [_], _ => rfl }
  have W5 := ok_is_name (P := R.prog) (w := w) (base := base) F2 B
  have W6 := ok_wrong_field (P := R.prog) (w := w) (base := base) F5 F0 (He.glo_ok X G (c.p.m.d.fact 0 (f := .glo "is_integer") rfl)) F1 (He.glo_ok X G (c.p.m.d.fact 1 (f := .glo "is_between") rfl)) F4 (He.glo_ok X G (c.p.m.d.fact 4 (f := .glo "are_pauses") rfl)) F3 (He.glo_ok X G (c.p.m.d.fact 3 (f := .glo "is_ending") rfl)) B
  have WI := ok_Policy_init (w := w) (base := base) FI TN TP TC W5 (He.glo_ok X G (c.p.m.d.fact 2 (f := .glo "is_name") rfl)) F2 W6 (He.glo_ok X G (c.p.m.d.fact 5 (f := .glo "wrong_field") rfl)) F5
  have WF := ok_fields (P := R.prog) (w := w) (base := base) FF TC (He.glo_ok X G (c.p.m.d.fact 15 (f := .glo "FIELDS") rfl)) (fun H => He.tupB_ok y1 H) (He.free_ok X G (c.p.m.d.fact 27 (f := .free "dict") rfl)) (He.free_ok X G (c.p.m.d.fact 28 (f := .free "zip") rfl))
  have CF : ChFs R.prog w K mg base _ (He.ga K "Policy") _ :=
    { c0 := ok_changed (w := w) (base := base) (ea := endA K) FC TC MF WF FF (He.glo_ok X G (c.p.m.d.fact 15 (f := .glo "FIELDS") rfl)) (fun H => He.tupB_ok y1 H) TP FI MI (He.glo_ok X G (c.p.m.d.fact 14 (f := .glo "Policy") rfl)) WI (by decide) (by decide) (fun _ _ _ _ _ _ _ us hl => match us, hl with | [], _ => rfl),
      cL := ok_changed (w := w) (base := base) (ea := endA K) FC TC MF WF FF (He.glo_ok X G (c.p.m.d.fact 15 (f := .glo "FIELDS") rfl)) (fun H => He.tupB_ok y1 H) TP FI MI (He.glo_ok X G (c.p.m.d.fact 14 (f := .glo "Policy") rfl)) WI (by decide) (by decide) (fun _ _ _ _ _ _ _ us hl => match us, hl with | [_], _ => rfl),
      cEL := ok_changed (w := w) (base := base) (ea := endA K) FC TC MF WF FF (He.glo_ok X G (c.p.m.d.fact 15 (f := .glo "FIELDS") rfl)) (fun H => He.tupB_ok y1 H) TP FI MI (He.glo_ok X G (c.p.m.d.fact 14 (f := .glo "Policy") rfl)) WI (by decide) (by decide) (fun _ _ _ _ _ _ _ us hl => match us, hl with | [_, _], _ => rfl),
      cT := ok_changed (w := w) (base := base) (ea := endA K) FC TC MF WF FF (He.glo_ok X G (c.p.m.d.fact 15 (f := .glo "FIELDS") rfl)) (fun H => He.tupB_ok y1 H) TP FI MI (He.glo_ok X G (c.p.m.d.fact 14 (f := .glo "Policy") rfl)) WI (by decide) (by decide) (fun _ _ _ _ _ _ _ us hl => match us, hl with | [_], _ => rfl),
      cTE := ok_changed (w := w) (base := base) (ea := endA K) FC TC MF WF FF (He.glo_ok X G (c.p.m.d.fact 15 (f := .glo "FIELDS") rfl)) (fun H => He.tupB_ok y1 H) TP FI MI (He.glo_ok X G (c.p.m.d.fact 14 (f := .glo "Policy") rfl)) WI (by decide) (by decide) (fun _ _ _ _ _ _ _ us hl => match us, hl with | [_, _], _ => rfl),
      cTP := ok_changed (w := w) (base := base) (ea := endA K) FC TC MF WF FF (He.glo_ok X G (c.p.m.d.fact 15 (f := .glo "FIELDS") rfl)) (fun H => He.tupB_ok y1 H) TP FI MI (He.glo_ok X G (c.p.m.d.fact 14 (f := .glo "Policy") rfl)) WI (by decide) (by decide) (fun _ _ _ _ _ _ _ us hl => match us, hl with | [_, _], _ => rfl),
      cE := ok_changed (w := w) (base := base) (ea := endA K) FC TC MF WF FF (He.glo_ok X G (c.p.m.d.fact 15 (f := .glo "FIELDS") rfl)) (fun H => He.tupB_ok y1 H) TP FI MI (He.glo_ok X G (c.p.m.d.fact 14 (f := .glo "Policy") rfl)) WI (by decide) (by decide) (fun _ _ _ _ _ _ _ us hl => match us, hl with | [_], _ => rfl),
      cP := ok_changed (w := w) (base := base) (ea := endA K) FC TC MF WF FF (He.glo_ok X G (c.p.m.d.fact 15 (f := .glo "FIELDS") rfl)) (fun H => He.tupB_ok y1 H) TP FI MI (He.glo_ok X G (c.p.m.d.fact 14 (f := .glo "Policy") rfl)) WI (by decide) (by decide) (fun _ _ _ _ _ _ _ us hl => match us, hl with | [_], _ => rfl),
      cN := ok_changed (w := w) (base := base) (ea := endA K) FC TC MF WF FF (He.glo_ok X G (c.p.m.d.fact 15 (f := .glo "FIELDS") rfl)) (fun H => He.tupB_ok y1 H) TP FI MI (He.glo_ok X G (c.p.m.d.fact 14 (f := .glo "Policy") rfl)) WI (by decide) (by decide) (fun _ _ _ _ _ _ _ us hl => match us, hl with | [_], _ => rfl),
      cLN := ok_changed (w := w) (base := base) (ea := endA K) FC TC MF WF FF (He.glo_ok X G (c.p.m.d.fact 15 (f := .glo "FIELDS") rfl)) (fun H => He.tupB_ok y1 H) TP FI MI (He.glo_ok X G (c.p.m.d.fact 14 (f := .glo "Policy") rfl)) WI (by decide) (by decide) (fun _ _ _ _ _ _ _ us hl => match us, hl with | [_, _, _], _ => rfl),
      cY := ok_changed (w := w) (base := base) (ea := endA K) FC TC MF WF FF (He.glo_ok X G (c.p.m.d.fact 15 (f := .glo "FIELDS") rfl)) (fun H => He.tupB_ok y1 H) TP FI MI (He.glo_ok X G (c.p.m.d.fact 14 (f := .glo "Policy") rfl)) WI (by decide) (by decide) (fun _ _ _ _ _ _ _ us hl => match us, hl with | [_], _ => rfl),
      cG := ok_changed (w := w) (base := base) (ea := endA K) FC TC MF WF FF (He.glo_ok X G (c.p.m.d.fact 15 (f := .glo "FIELDS") rfl)) (fun H => He.tupB_ok y1 H) TP FI MI (He.glo_ok X G (c.p.m.d.fact 14 (f := .glo "Policy") rfl)) WI (by decide) (by decide) (fun _ _ _ _ _ _ _ us hl => match us, hl with | [_], _ => rfl) }
  have WO := ok_law_fields_of (P := R.prog) (w := w) (base := base) F10 TC Z
  have WY := ok_law_policy (P := R.prog) (w := w) (base := base) F9 F8 (He.glo_ok X G (c.p.m.d.fact 8 (f := .glo "_law_choose") rfl)) F7 (He.glo_ok X G (c.p.m.d.fact 7 (f := .glo "_law_draw") rfl)) FI MI (He.glo_ok X G (c.p.m.d.fact 14 (f := .glo "Policy") rfl)) WI B.len B.int M.range B.tuple
  have WR := ok_pr F12 M TC TP MCh CF Z F10 (He.glo_ok X G (c.p.m.d.fact 10 (f := .glo "_law_fields_of") rfl)) WO F11 (He.glo_ok X G (c.p.m.d.fact 11 (f := .glo "_law_told") rfl)) (T := TT0 K) TB1 (code_at (st := s_law_pauses_right) F12) (by simp [TT0]) (by
    intro p hp e
    simp only [TT0, List.mem_cons, List.not_mem_nil, or_false] at hp
    rcases hp with rfl | rfl
    · rfl
    · exact absurd e.symm hne)
  exact ok_law F13 B M TC TP MCh CF Z F10 (He.glo_ok X G (c.p.m.d.fact 10 (f := .glo "_law_fields_of") rfl)) WO F11 (He.glo_ok X G (c.p.m.d.fact 11 (f := .glo "_law_told") rfl)) F6 (He.glo_ok X G (c.p.m.d.fact 6 (f := .glo "_law_pool") rfl)) F9 (He.glo_ok X G (c.p.m.d.fact 9 (f := .glo "_law_policy") rfl)) WY (T := TT0 K) F12 (He.glo_ok X G (c.p.m.d.fact 12 (f := .glo "_law_pauses_right") rfl)) WR TB2 (code_at (st := s_law) F13) (by simp [TT0]) (by
    intro p hp e
    simp only [TT0, List.mem_cons, List.not_mem_nil, or_false] at hp
    rcases hp with rfl | rfl
    · exact absurd e hne
    · rfl)
end K04
open PySem PySem.W PySem.Calls PyProof.Rows
set_option maxRecDepth 100000 in
set_option maxHeartbeats 0 in
theorem PySem.Challenge.cw_mostcalls_k04_policies_changed_holds : PySem.Challenge.rw_mostcalls_k04_policies_changed.Holds := by
  w_on; o_law
  refine HandSHeadRun.head_any (r := OpenLaw.row PySem.Challenge.rw_mostcalls_k04_policies_changed) (q := view (OpenLaw.row PySem.Challenge.rw_mostcalls_k04_policies_changed).prog [31]) (H := K04.hk) (ob := K04.ob) (M := 6000) (loose := K04.names) (d := HandSHeadRun.topDef (OpenLaw.row PySem.Challenge.rw_mostcalls_k04_policies_changed).prog 31) (kwd := []) K04.ob_eq
    (by kernel_rfl) (fun s => by kernel_rfl) K04.run (by kernel_rfl) (by kernel_rfl) (by kernel_rfl) (by rfl) (by first | assumption | decide +kernel) (by decide +kernel) ⟨rfl, rfl, rfl, rfl, rfl, by decide +kernel⟩ ?hw ?hc
  case hw => w_witness2
  case hc =>
    refine L2.walk_ofTG (l := PySem.Challenge.rw_mostcalls_k04_policies_changed) (n := 63) (k := 11) (x := "_law_script") (CX := fun _ => L2.CX0) rfl (by decide) (by kernel_rfl) ⟨rfl, by decide, by decide⟩ ?F (fun _ _ _ _ _ z => z)
    intro w mg fa h Y G hmg0
    obtain ⟨K, KX, c⟩ := Y
    have hmg : mg ("law" : PySem.Str) = some (.ref fa) := by
      have e : (HandSHeadRun.topDef (OpenLaw.row PySem.Challenge.rw_mostcalls_k04_policies_changed).prog 31).name = ("law" : PySem.Str) := by kernel_rfl
      rw [← e]
      exact hmg0
    obtain ⟨fd, hb, hF⟩ := K04.facts (w := w) KX G hmg c
    refine ⟨K, fd, K04.css K, K04.spLaw K (K04.TT0 K), KX, hb, fun p hp => ?_, fun H a ns hl hT hS => ⟨a, ns, rfl, hS, hl, ?_, fun _ => rfl⟩, hF⟩
    · obtain ⟨d, hd, rfl⟩ := List.mem_map.mp hp
      obtain ⟨z1, z2, z3⟩ := c.t d hd
      exact ⟨z3, z2, PySem.W.codeHd_of_K KX z1⟩
    · intro p hp
      simp only [K04.TT0, List.mem_cons, List.not_mem_nil, or_false] at hp
      rcases hp with rfl | rfl
      · exact LamX.TabS.nil (hT (He.cT K ("_law_pauses_right", none)) (by simp [K04.css, K04.tfs]))
      · exact LamX.TabS.nil (hT (He.cT K ("law", none)) (by simp [K04.css, K04.tfs]))
#print axioms PySem.Challenge.cw_mostcalls_k04_policies_changed_holds
