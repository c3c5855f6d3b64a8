import PyProof.Rows.All
import Wide.All
import OpenK.AllK
import Wide.FinOn
import KE.KExcSuper
import HandS.Base
import HandS.Call
import HandS.Exc
import HandS.HeadWalk
import KE.KStateDown
import HandS.Words
import HandS.HeadHook1
import HandS.HeadHook2
import HandS.Defaults
import HandS.Property
import HandS.List
import HandS.Comp
import HandS.Iter
import HandS.Walk
import HandS.IsInst
import HandS.Evl
import PyProof.ReprReads
import HandS.Ends
import HandS.WordsExc
import HandS.HeadEnd
import PyProof.ReprRoads
import HandS.EndTab
import HandS.HeadHook4
import KE.KExcInit
import HandS.ExcInit
import HandS.ExcField
import HandS.ExcIs
import HandS.NoneIn
import PyProof.RulesMatch
import PyProof.RulesMatchSeq
import PyProof.Rows.MatchSeqLen
import HandS.Dict
import HandS.More
import HandS.HeadHook3
import HandS.Head0
import HandS.Head1
import HandS.Head2
import HandS.Lambda
import KE.KLam
import HandS.ExcOwn
import PyProof.ListMulRoad
import PyProof.FactsAll.tuple_2
import HandS.TupMul
import HandS.TryMany
import HandS.MakeKwOnly
import KE.KIsAll
import KE.KExcIs
import HandS.ExcValue
import HandS.Slots
import HandS.Flow
import HandS.Wide
import HandS.Text
import HandS.Steps
import HandS.TupAny
import HandS.Deep
import HandS.Finally
import HandS.WordsDict
import HandS.Zip
import HandS.ListItems
import HandS.DictTup
import HandS.Sort
import HandS.DictComp
import PyProof.StrOps2
import OpenK.KMeth
import OpenK.KOps
import HandS.Star
import KE.KItemsList
import HandS.SortInts
import HandS.SlotsOwn
import HandS.Zip0
import HandS.SortKw
import KE.KDictZip
import KE.GoesEnumKw
import HandS.DictEq
import HandS.DeepEq
import HandS.OwnEq
import PyProof.InstEq
import HandS.Style
import PyProof.EqAt
import PyProof.EqKinds
import PyProof.MeetsIn
import HandS.ListEq
import PyProof.P3Eq
import HandS.Set
import HandS.SetBool
import HandS.TupSets
import HandS.SetFor
import HandS.IterVal
import HandS.OwnIter
import KE.KRevSl
import PyProof.NeKinds
import KE.GoesMore
import PyProof.EnumMake
import HandS.StrMore
import HandS.RaiseMore
import KE.KTryMore
import KE.GoesComp
import KE.KParD
import KE.KDictSum
import KE.KDictCopyH
import KE.KeyNested
import KE.KDictDisplayH
import KE.KTupTabMore
import PyProof.RowDictHeap
import PySem.Challenge.RW_mostcalls_k16_rows
set_option Elab.async false
set_option linter.all false
set_option maxRecDepth 100000
set_option maxHeartbeats 4000000
namespace PySem
namespace MCX
open PySem.W PySem.Calls PyProof.Rows PySem.HandSPX
def iA (f : Str) (p1 p2 : Pos) : Arguments := { posonlyargs := [], args := [{ arg := "self", annotation := none, pos := p1 }, { arg := f, annotation := none, pos := p2 }], vararg := none, kwonlyargs := [], kw_defaults := [], kwarg := none, defaults := [] }
def iB (f : Str) (q1 q2 q3 q4 q5 q6 q7 q8 q9 q10 : Pos) : List Stmt := [.Expr (.Call (.Attribute (.Call (.Name "super" q1) [] [] q2) "__init__" q3) [.Name f q4] [] q5) q6, .Assign [.Attribute (.Name "self" q7) f q8] (.Name f q9) q10]
def iS (f : Str) : Scope := { kind := .function, names := [(PySem.Str.ofString "self", .local), (f, .local), (PySem.Str.ofString "__class__", .free), (PySem.Str.ofString "super", .globalImplicit)], isGenerator := false, isCoroutine := false, more := [] }
structure FOk (f : Str) : Prop where
  dbg : (f == ("__debug__" : Str)) = false
  lf : (iS f).names.lookup f = some .local
  lc : (iS f).names.lookup ("__class__" : Str) = some .free
  ls : (iS f).names.lookup ("super" : Str) = some .globalImplicit
  ns : (("self" : Str) == f) = false
  bd : ∀ (qual : Str) (p1 p2 : Pos) (body : List Stmt) (doc pm : Value) (an : Option Addr) (cd ct : Value) (cc : Addr) (x v : Value), bindArgs (ksFn "__init__" qual (iA f p1 p2) body (iS f) .none .none doc pm an cd ct cc) ⟨[x, v], []⟩ = pure ([(("self" : Str), x), (f, v)] : List (Str × Value))
theorem fok_value : FOk "value" := ⟨by decide, rfl, rfl, rfl, by decide, fun _ _ _ _ _ _ _ _ _ _ _ _ => rfl⟩
/-- what the written part says of the class at C and of its __init__ at fI -/
structure XTxt (prog : Program) (K : Frag) (mg : Str → Option Value) (nm f : Str) (C fI : Addr) : Prop where
  gC : mg nm = some (.ref C)
  fok : FOk f
  cls : ∃ nm q N bs bm sn sub ab col dd k0 k1 k2 k3 k5, K.lookup C = some (excClassObj nm q C N bs bm true sn sub ab col dd k0 k1 k2 k3 k5 "ValueError.__new__") ∧ refsVE bm = true
  sa : findIn K (.ref C) "__setattr__" = some (some (.builtin "object.__setattr__"))
  ga : findIn K (.ref C) "__getattribute__" = some (some (.builtin "BaseException.__getattribute__"))
  gg : findIn K (.ref C) "__getattr__" = some none
  noF : findIn K (.ref C) f = some none
  iC : findIn K (.ref C) "__init__" = some (some (.ref fI))
  tC : typeIn K (.ref fI) = some (.type "function")
  kC : keepIn K (.ref C) = true
  exC : subIn K (.ref C) (.type "BaseException") = some true
  veC : subIn K (.ref C) (.type "ValueError") = some true
  tyC : typeIn K (.ref C) = some (.type "type")
  hdC : hasDictIn K C = true
  te : exmOne K (.ref C) (.ref C) = some true
  mC : mroIn K C (.ref C) = some true
  su : ks_superIn K C C "__init__" = some (some (.builtin "ValueError.__init__"))
  tp : nsIn K cStatics "thirdparty.any" = some none
  noS : mg "super" = none
  top : (prog.main.scope.names.lookup ("super" : Str)).isSome = false
  fn : ∃ (qual : Str) (oc : Value) (od : Option Addr) (doc pm : Value) (an : Option Addr) (cda : Addr) (ct : Value) (cc : Addr) (osl : Array (Option Value)) (p1 p2 q1 q2 q3 q4 q5 q6 q7 q8 q9 q10 : Pos),
    K.lookup fI = some ⟨oc, od, .func (ksFn "__init__" qual (iA f p1 p2) (iB f q1 q2 q3 q4 q5 q6 q7 q8 q9 q10) (iS f) .none .none doc pm an (.ref cda) ct cc), osl⟩ ∧ codeIn K (.ref cda) qual = true ∧
    (∃ ccl cdd vs ccs file tf, K.lookup cda = some ⟨ccl, cdd, .fields vs, ccs⟩ ∧ vs[2]? = some (.str file tf) ∧ ((prog.main.file : Str) == file) = true) ∧
    (∃ cl cld csl, K.lookup cc = some ⟨cl, cld, .cell (some (.ref C)), csl⟩) ∧ (q3.endLine == q5.line) = true
end MCX
end PySem
namespace MCH
open PySem PySem.Spec PyProof.Rows L2 PySem.W PySem.MCX PySem.HandSPX He
/-- an own error: its class's name, its field, its __init__ -/
structure XD where
  nm : Str
  f : Str
  st : Stmt
abbrev FnV : Type := Option (Str × Arguments × FuncBody × Scope × Addr × Addr)
def fnV (K : Frag) (x : XD) : FnV := match K.lookup (ma K (ga K x.nm) "__init__") with
  | some ⟨_, _, .func fd, _⟩ => some (fd.name, fd.params, fd.body, fd.scope, fd.globals, fd.builtins)
  | _ => none
def XD.val (x : XD) : FnV := some ("__init__", defArgs x.st, .stmts (defBody x.st), defScope x.st, mainGlobals, builtinsNs)
def clB (K : Frag) (C : Addr) : Bool := match K.lookup C with
  | some ⟨.type c, _, .cls cd, sl⟩ => decide (c = "type") && (match cd.mro, sl.toList with
    | .ref C' :: bm, [_, _, _, _, some (.builtin n), _] => decide (C' = C) && (decide (n = "ValueError.__new__") && (!cd.hasDel && (cd.hasDict && refsVE bm)))
    | _, _ => false)
  | _ => false
def fnB (prog : Program) (K : Frag) (C fI : Addr) : Bool := match K.lookup fI with
  | some ⟨_, _, .func fd, _⟩ => decide (fd.defaults = .none) && (decide (fd.kwdefaults = .none) && (match fd.code, fd.closure with
    | .ref cda, [(x, cc)] => decide (x = "__class__") && (codeIn K (.ref cda) fd.qualname && ((match K.lookup cda with
      | some ⟨_, _, .fields vs, _⟩ => (match (vs[2]? : Option Value) with
        | some (.str file _) => ((prog.main.file : Str) == file)
        | _ => false)
      | _ => false) && (match K.lookup cc with
      | some ⟨_, _, .cell (some (.ref D)), _⟩ => decide (D = C)
      | _ => false)))
    | _, _ => false))
  | _ => false
def xB (prog : Program) (K : Frag) (x : XD) : Bool :=
  eqO (nsIn K mainGlobals x.nm) (some (some (.ref (ga K x.nm)))) && (clB K (ga K x.nm) && (eqO (findIn K (.ref (ga K x.nm)) "__setattr__") (some (some (.builtin "object.__setattr__"))) &&
  (eqO (findIn K (.ref (ga K x.nm)) "__getattribute__") (some (some (.builtin "BaseException.__getattribute__"))) && (eqO (findIn K (.ref (ga K x.nm)) "__getattr__") (some none) && (eqO (findIn K (.ref (ga K x.nm)) x.f) (some none) &&
  (eqO (findIn K (.ref (ga K x.nm)) "__init__") (some (some (.ref (ma K (ga K x.nm) "__init__")))) && (decide (typeIn K (.ref (ma K (ga K x.nm) "__init__")) = some (.type "function")) && (keepIn K (.ref (ga K x.nm)) &&
  (decide (subIn K (.ref (ga K x.nm)) (.type "BaseException") = some true) && (decide (subIn K (.ref (ga K x.nm)) (.type "ValueError") = some true) && (decide (typeIn K (.ref (ga K x.nm)) = some (.type "type")) && (hasDictIn K (ga K x.nm) &&
  (decide (exmOne K (.ref (ga K x.nm)) (.ref (ga K x.nm)) = some true) && (decide (mroIn K (ga K x.nm) (.ref (ga K x.nm)) = some true) && (eqO (ks_superIn K (ga K x.nm) (ga K x.nm) "__init__") (some (some (.builtin "ValueError.__init__"))) &&
  (eqO (nsIn K cStatics "thirdparty.any") (some none) && (eqO (nsIn K mainGlobals "super") (some none) && fnB prog K (ga K x.nm) (ma K (ga K x.nm) "__init__"))))))))))))))))))
abbrev AlM : Type := AlD × Bool × List FnV
def valM (fn : List DefD) (xs : List XD) : AlM := (valD fn, true, xs.map XD.val)
structure SaysM (prog : Program) (fa : List Fa) (fn : List DefD) (xs : List XD) (ex : Frag → Bool) (K : Frag) : Prop where
  d : SaysD fa fn K
  x : ∀ x ∈ xs, xB prog K x = true ∧ fnV K x = x.val
  e : ex K = true
theorem map_eq_at {α β : Type} {f g : α → β} : ∀ {l : List α}, l.map f = l.map g → ∀ x ∈ l, f x = g x
  | [], _, x, hx => by cases hx
  | a :: l, h, x, hx => by
    simp only [List.map_cons, List.cons.injEq] at h
    rcases List.mem_cons.mp hx with rfl | hx
    · exact h.1
    · exact map_eq_at h.2 x hx
end MCH
namespace MCH
open PySem PySem.Spec PyProof.Rows L2 PySem.W He
/-- a property of a class: the class, its name, its getter -/
structure PD where
  cls : Str
  prop : Str
  qual : Str
  st : Stmt
def ppa (K : Frag) (x : PD) : Addr := ma K (ga K x.cls) x.prop
def pga (K : Frag) (x : PD) : Addr := match recIn K (ppa K x) "property" with
  | some (.ref g :: _) => g
  | _ => 0
def pFn (K : Frag) (x : PD) : FnW := match K.lookup (pga K x) with
  | some ⟨_, _, .func fd, _⟩ => some (fd.name, fd.qualname, fd.params, fd.body, fd.scope, fd.globals, fd.closure, fd.builtins)
  | _ => none
def PD.val (x : PD) : FnW := some (x.prop, x.qual, defArgs x.st, .stmts (defBody x.st), defScope x.st, mainGlobals, [], builtinsNs)
def pB (K : Frag) (x : PD) : Bool := eqO (findIn K (.ref (ga K x.cls)) x.prop) (some (some (.ref (ppa K x)))) && (eqO (specialIn K (.ref (ppa K x)) "__get__") (some (some (.builtin "property.__get__"))) && (decide (takesIn K (.ref (ppa K x)) = some true) &&
  ((match recIn K (ppa K x) "property" with | some (.ref _ :: _) => true | _ => false) && (keepIn K (.ref (pga K x)) && (match K.lookup (pga K x) with
    | some ⟨_, _, .func fd, _⟩ => codeIn K fd.code x.qual && dflB K fd.defaults []
    | _ => false)))))
theorem pB_ok {K : Frag} {x : PD} (e : pFn K x = x.val) (c : pB K x = true) : PropOf K (ga K x.cls) x.prop (ppa K x) (pga K x) ∧ ∃ fd, FunD K x.prop x.qual (defArgs x.st) (defBody x.st) (defScope x.st) [] [] (pga K x) fd := by
  obtain ⟨c1, c⟩ := ba c
  obtain ⟨c2, c⟩ := ba c
  obtain ⟨c3, c⟩ := ba c
  obtain ⟨c4, c⟩ := ba c
  obtain ⟨kp, c⟩ := ba c
  refine ⟨⟨eqO_ok c1, eqO_ok c2, of_decide_eq_true c3, ?_⟩, ?_⟩
  · unfold pga
    split at c4
    · rename_i g r q
      rw [q]
      exact ⟨r, rfl⟩
    · cases c4
  · unfold pFn at e
    cases lk : K.lookup (pga K x) with
    | none => rw [lk] at c; cases c
    | some ob =>
      obtain ⟨b1, b2, b3, b4⟩ := ob
      rw [lk] at c e
      cases b3 with
      | func fd =>
        obtain ⟨n1, n2, n3, n4, n5, n6, n7, n8, n9, n10, n11, n12, n13, n14, n15⟩ := fd
        have y : (some (n1, n2, n3, n4, n5, n6, n7, n15) : FnW) = some (x.prop, x.qual, defArgs x.st, .stmts (defBody x.st), defScope x.st, mainGlobals, [], builtinsNs) := e
        simp only [Option.some.injEq, Prod.mk.injEq] at y
        obtain ⟨y1, y2, y3, y4, y5, y6, y7, y8⟩ := y
        subst y1 y2 y3 y4 y5 y6 y7 y8
        obtain ⟨k1, k2⟩ := ba (show (codeIn K n13 x.qual && dflB K n8 []) = true from c)
        exact ⟨_, ⟨b1, b2, n8, n9, n10, n11, n12, n13, n14, b4, rfl, lk, k1, dflB_ok k2, .inl rfl⟩, kp⟩
      | _ => cases c
abbrev AlP : Type := AlM × Bool × List FnW
def valP (fn : List DefD) (xs : List XD) (ps : List PD) : AlP := (valM fn xs, true, ps.map PD.val)
structure SaysP (prog : Program) (fa : List Fa) (fn : List DefD) (xs : List XD) (ps : List PD) (ex : Frag → Bool) (K : Frag) : Prop where
  m : SaysM prog fa fn xs ex K
  p : ∀ x ∈ ps, pB K x = true ∧ pFn K x = x.val
end MCH
namespace L2
open PySem PySem.Spec PyProof.Rows
mutual
inductive Dq (K : PySem.W.Frag) (H : Hp) : V → PyData → Prop
  | non : Dq K H .non .none
  | bl (b : Bool) : Dq K H (.bl b) (.bool b)
  | int (i : Int) : Dq K H (.int i) (.int i)
  | str (x : Str) : x.length ≤ sizeLine → Dq K H (.str x) (.str x)
  | lst {a : Addr} {xs : List V} {ds : List PyData} : SqL K H a xs → DqA K H xs ds → Dq K H (.ref a) (.list ds)
  | tup {a : Addr} {xs : List V} {ds : List PyData} : SqT K H a xs → DqA K H xs ds → Dq K H (.ref a) (.tuple ds)
  | dct {a : Addr} : H a = some (.dK []) → Dq K H (.ref a) (.dict [])
inductive DqA (K : PySem.W.Frag) (H : Hp) : List V → List PyData → Prop
  | nil : DqA K H [] []
  | cons {v : V} {vs : List V} {d : PyData} {ds : List PyData} : Dq K H v d → DqA K H vs ds → DqA K H (v :: vs) (d :: ds)
end
theorem SqT.upT {K : PySem.W.Frag} {H H' : Hp} {a : Addr} {xs : List V} (e : Same H H') (h : SqT K H a xs) : SqT K H' a xs := by
  rcases h with h | h
  · rcases h with h | ⟨o, h⟩
    · exact .inl (.inl (e _ _ h))
    · exact .inl (.inr ⟨o, e _ _ h⟩)
  · exact .inr h
mutual
theorem Dq.up {K : PySem.W.Frag} {H H' : Hp} (e : Same H H') : ∀ {v : V} {d : PyData}, Dq K H v d → Dq K H' v d
  | _, _, .non => .non
  | _, _, .bl b => .bl b
  | _, _, .int i => .int i
  | _, _, .str x h => .str x h
  | _, _, .lst h a => .lst (e.seq h) (DqA.up e a)
  | _, _, .tup h a => .tup (SqT.upT e h) (DqA.up e a)
  | _, _, .dct h => .dct (e _ _ h)
theorem DqA.up {K : PySem.W.Frag} {H H' : Hp} (e : Same H H') : ∀ {vs : List V} {ds : List PyData}, DqA K H vs ds → DqA K H' vs ds
  | _, _, .nil => .nil
  | _, _, .cons h r => .cons (Dq.up e h) (DqA.up e r)
end
theorem DqA.len {K : PySem.W.Frag} {H : Hp} : ∀ {vs : List V} {ds : List PyData}, DqA K H vs ds → vs.length = ds.length
  | _, _, .nil => rfl
  | _, _, .cons _ r => by simp [DqA.len r]
theorem DqA.at {K : PySem.W.Frag} {H : Hp} : ∀ {vs : List V} {ds : List PyData} {i : Nat} {v : V}, DqA K H vs ds → vs[i]? = some v → ∃ d, ds[i]? = some d ∧ Dq K H v d
  | _, _, _, _, .nil, e => by simp at e
  | _, _, 0, _, .cons h _, e => by simp at e; subst e; exact ⟨_, rfl, h⟩
  | _, _, i + 1, v, .cons _ r, e => by
    obtain ⟨d, h1, h2⟩ := DqA.at (i := i) (v := v) r (by simpa using e)
    exact ⟨d, by simpa using h1, h2⟩
mutual
theorem Dq.dp {K : PySem.W.Frag} {H : Hp} : ∀ {v : V} {d : PyData}, Dq K H v d → d.hasDict = false → Dp K H v d
  | _, _, .non, _ => .non
  | _, _, .bl b, _ => .bl b
  | _, _, .int i, _ => .int i
  | _, _, .str x _, _ => .str x
  | _, _, .lst h a, n => .lst h (DqA.dp a (by simpa [PyData.hasDict] using n))
  | _, _, .tup h a, n => .tup h (DqA.dp a (by simpa [PyData.hasDict] using n))
  | _, _, .dct h, n => by simp [PyData.hasDict] at n
theorem DqA.dp {K : PySem.W.Frag} {H : Hp} : ∀ {vs : List V} {ds : List PyData}, DqA K H vs ds → PyData.hasDictAll ds = false → DpAll K H vs ds
  | _, _, .nil, _ => .nil
  | _, _, .cons h r, n => by
    simp [PyData.hasDictAll] at n
    exact .cons (Dq.dp h n.1) (DqA.dp r n.2)
end
def tyD : PyData → String
  | .none => "NoneType"
  | .bool _ => "bool"
  | .int _ => "int"
  | .str _ => "str"
  | .list _ => "list"
  | .tuple _ => "tuple"
  | .dict _ => "dict"
theorem Dq.ty {K : PySem.W.Frag} {H : Hp} {v : V} {d : PyData} (h : Dq K H v d) : TyX K H v (.type (tyD d)) := by
  cases h with
  | non => exact .base .non
  | bl b => exact .base (.bl b)
  | int i => exact .base (.int i)
  | str x _ => exact .base (.str x)
  | lst h _ =>
    rcases h with (h | ⟨o, h⟩) | ⟨o, _, _, h, hc, _⟩
    · exact .base (.lst h)
    · exact .base (.frz h)
    · exact .kList h hc
  | tup h _ =>
    rcases h with (h | ⟨o, h⟩) | ⟨o, _, _, h, hc, _⟩
    · exact .base (.tup h)
    · exact .fTuple h
    · exact .kTuple h hc
  | dct h => exact .base (.dK h)
/-- repr(x), by the data behind x -/
def rRepr (K : PySem.W.Frag) : List V → Hp → VK → Prop := fun xs H Q => ∃ (v : V) (d : PyData), xs = [v] ∧ Dp K H v d ∧ d.showable = true ∧ d.hasDict = false ∧ d.depth ≤ 60 ∧ d.shown.length ≤ sizeLine ∧ Q (.str d.shown) H
end L2
namespace L2
open PySem PySem.Spec PyProof.Rows
structure FnG (P : Program) (w : World) (K : PySem.W.Frag) (mg : Str → Option Value) (base : Heap) (CX : CXT) (k : Nat) (f : Addr) (fd : FuncData) (ps : List Str) (sp : Sp) : Prop where
  len : ∀ vs H Q E, sp vs H Q E → vs.length = ps.length
  run : ∀ (A : Around) (outer : List Env) (s : Shared) (H : Hp) (args : Args) (us : List Value) (vs : List V) (Q : VK) (E : XK), A.guards = some [] → Room k A → Env0 P w K mg base A outer s H → BindsTo s fd args (ps.zip us) → Vals vs us → sp vs H Q E →
    codeAny (model P w) A (.call (.ref f) args) (CR CX outer P w H s Q E) s
section
variable {P : Program} {w : World} {K : PySem.W.Frag} {mg : Str → Option Value} {base : Heap} {CX : CXT} {k : Nat} {f : Addr} {fd : FuncData} {ps : List Str} {sp : Sp}
theorem FnOk.g (F : FnOk P w K mg base CX k f fd ps sp) : FnG P w K mg base CX k f fd ps sp := ⟨F.len, fun A o s H a us vs Q E _ hr => F.run A o s H a us vs Q E hr⟩
theorem FnG.mono {j : Nat} (F : FnG P w K mg base CX j f fd ps sp) (h : j ≤ k) : FnG P w K mg base CX k f fd ps sp := ⟨F.len, fun A o s H a us vs Q E hg hr => F.run A o s H a us vs Q E hg (hr.mono h)⟩
theorem FunD.okG {x qual : Str} {params : Arguments} {body : List Stmt} {scope : Scope} {dvs : List V} {kws : List (Str × V)} {N : List Str} (F : FunD K x qual params body scope dvs kws f fd) (S : FnScope N ps scope) (len : ∀ vs H Q E, sp vs H Q E → vs.length = ps.length)
    (hbody : ∀ (cdv : Value) (A : Around) (outer : List Env) (s : Shared) (H : Hp) (vs : List V) (Q : VK) (E : XK), A.guards = some [] → Room k (A.deeper (envOfC qual scope s.heap.objs.size f cdv)) → sp vs H Q E →
      ∃ t, PSs (cxOf CX P w K mg base N qual scope f cdv A outer s H E) body t ∧ t { nx := fun _ H' => Q .non H', rt := Q } (start N vs) H) : FnG P w K mg base CX (k + 1) f fd ps sp := by
  obtain ⟨oc, od, dV, kV, doc, pm, an, cdv, ct, osl, rfl, lk, hcd, _, _⟩ := F.ex
  refine ⟨len, fun A outer s H args us vs Q E hgd hr e0 hbn rv hsp => ?_⟩
  have KX : K.In s.heap := e0.mod.kin.keeps fun b o e => (e0.bs b o e).1
  have kinds : ∀ y ∈ ps.zip us, scope.names.lookup y.1 = some .local ∨ (scope.names.lookup y.1 = some .cell ∧ ((cellsFrom (s.heap.objs.size + 1) scope.names []).lookup y.1).isSome = true) := by
    rintro ⟨n, v⟩ hy
    exact (S.par n (List.of_mem_zip hy).1).imp id fun q => ⟨q, PySem.W.cellsFrom_some _ _ _ (.inl q)⟩
  refine codeAny_call_function hr.depth (KX _ _ lk) rfl S.co S.gen rfl (PySem.W.codeRec_of KX hcd) (hbn _ _ _ _ (wpAny_newFunctionEnv_cells S.kind kinds fun env he s1 x => ?_))
  subst he
  refine ⟨(e0.mod.nolimit.keeps fun b o e => (e0.bs b o e).1).keeps x.toInCall.keep, codeAny_func ?_⟩
  obtain ⟨t, ht, hq⟩ := hbody cdv A outer s H vs Q E hgd (hr.deeper _) hsp
  have J0 := inv_start (CX := CX) (E := E) S hr.hd e0 (len _ _ _ _ hsp) rv x
  refine wpAny_mono (ht.run [] s1 (start N vs) H _ J0 hq) (fun fl s' hs => ?_) fun e s' hs => hs
  cases fl with
  | ret u => exact let ⟨v, σ', H', J, rz, q⟩ := hs; ⟨v, H', J.os, J.bare, J.base, J.hok, rz, q⟩
  | next => exact let ⟨σ', H', J, q⟩ := hs; ⟨.non, H', J.os, J.bare, J.base, J.hok, rfl, q⟩
  | brk => exact let ⟨_, _, _, q⟩ := hs; q.elim
  | cont => exact let ⟨_, _, _, q⟩ := hs; q.elim
end
section
variable {X : Cx} {CX : CXT} {k : Nat} {f : Addr} {fd : FuncData} {ps : List Str} {sp : Sp} {dvs : List V} {ds : List Value} {E : XK} {x : Str} {p pos : Pos} {e : Expr} {es : List Expr} {t : TA}
theorem call_repr (hgd : X.A.guards = some []) (hu : X.A.units + 64 < cLine) : CallR X (.builtin "repr") (rRepr X.K) := by
  intro pins s σ H xs us Q I r h
  obtain ⟨v, d, rfl, hd, sh, nd, dp, hz, q⟩ := h
  obtain ⟨u, rfl, ru⟩ := vals1 r
  obtain ⟨as, hr⟩ := Dp.reads I d v u hd ru
  cases hd with
  | non => cases (show u = Value.none from ru); exact PySem.P.repr_of_none ⟨.str _, H, I.tok _, ⟨_, rfl⟩, q⟩
  | bl b => cases (show u = Value.bool b from ru); exact PySem.P.repr_of_bool ⟨.str _, H, I.tok _, ⟨_, rfl⟩, q⟩
  | int i =>
    obtain ⟨t, rfl⟩ := (show ∃ t, u = Value.int i t from ru)
    exact PySem.P.repr_of_int (by simpa [PyData.showable] using sh) ⟨.str _, H, I.tok _, ⟨_, rfl⟩, q⟩
  | str x =>
    obtain ⟨t, rfl⟩ := (show ∃ t, u = Value.str x t from ru)
    exact PySem.P.repr_of_str ⟨.str _, H, I.tok _, ⟨_, rfl⟩, q⟩ hz
  | lst hs ha =>
    cases ru
    exact repr_of_reads' hr sh (fun z => by rw [nd] at z; cases z) hgd (by omega) (fun _ _ e => e) (fun h' u tk hk => ⟨.str _, H, I.kept (t' := tk) hk, ⟨_, rfl⟩, q⟩) hz
  | tup hs ha =>
    cases ru
    exact repr_of_reads' hr sh (fun z => by rw [nd] at z; cases z) hgd (by omega) (fun _ _ e => e) (fun h' u tk hk => ⟨.str _, H, I.kept (t' := tk) hk, ⟨_, rfl⟩, q⟩) hz
end
end L2
namespace L2
open PySem PySem.Spec PyProof.Rows
section
variable {P : Program} {w : World} {K : PySem.W.Frag} {mg mb : Str → Option Value} {CX : CXT} {k : Nat} {fa a : Addr} {fd : FuncData} {x : Str} {sp : Sp} {s₁ : Shared} {vs : List Value} {ns : List Int}
/-- the goal of a law's call -/
abbrev LawGoal (P : Program) (w : World) (fa a : Addr) (s₁ : Shared) : Prop := codeAny (model P w) callerA (.call (.ref fa) ⟨[.ref a], []⟩) (fun r s' => r = .ok (.ret (.bool true)) ∧ OldK s₁.heap s'.heap ∧ s'.os = s₁.os ∧ AllBare s'.gens) s₁
end
end L2
namespace L2
open PySem PySem.Spec PyProof.Rows
section
variable {P : Program} {w : World} {K : PySem.W.Frag} {mg mb : Str → Option Value} {CX : CXT} {k : Nat} {fa a : Addr} {fd : FuncData} {x : Str} {sp : Sp} {s₁ : Shared} {vs : List Value} {ns : List Int} {cs : List (Addr × Addr)}
abbrev tab0 : Obj := { cls := .none, data := .fields #[] }
end
end L2
namespace MCH
open PySem PySem.Spec PyProof.Rows L2 PySem.W He
abbrev AlO : Type := AlP × Bool
def obK (prog : Program) (fa : List Fa) (fn : List DefD) (xs : List XD) (ps : List PD) (ex : Frag → Bool) (K : Frag) : AlP :=
  ((obsD fa fn K, (xs.all fun x => xB prog K x) && ex K, xs.map fun x => fnV K x), (ps.all fun x => pB K x), ps.map fun x => pFn K x)
def valO (fn : List DefD) (xs : List XD) (ps : List PD) : AlO := (valP fn xs ps, true)
structure SaysO (prog : Program) (fa : List Fa) (fn : List DefD) (xs : List XD) (ps : List PD) (tf : List Defn) (ex : Frag → Bool) (h : Heap) (K : Frag) : Prop where
  p : SaysP prog fa fn xs ps ex K
  t : ∀ d ∈ tf, codeHdIn K (cT K d).1 (cT K d).2 = true ∧ K.lookup (cT K d).2 = none ∧ h.get? (cT K d).2 = some tab0
end MCH
namespace PySem
namespace MEX
open PySem.W PySem.Calls PyProof.Rows PySem.HandSPX
structure BaseE (B newId initId : String) (bm : List Value) : Prop where
  F : ExcBaseFacts B newId initId bm
  KF : KxsFacts B initId
  pass : ∀ self : Value, refuseLoop self "__setattr__" bm = pure ()
  ob : bm.contains (.type "object") = true
abbrev bmV : List Value := [.type "ValueError", .type "Exception", .type "BaseException", .type "object"]
abbrev bmL : List Value := [.type "LookupError", .type "Exception", .type "BaseException", .type "object"]
abbrev bmO : List Value := [.type "OverflowError", .type "ArithmeticError", .type "Exception", .type "BaseException", .type "object"]
abbrev bmR : List Value := [.type "RuntimeError", .type "Exception", .type "BaseException", .type "object"]
theorem baseV : BaseE "ValueError" "ValueError.__new__" "ValueError.__init__" bmV := ⟨F.excBase_ValueError, kxs_ValueError, F.store_ValueError.passes, by decide +kernel⟩
section
variable {M : Model} {A : Around} {E : Value → Shared → Prop} {h : Heap} {g : Array GenState} {d : Drawn} {t : Nat} {os : OsState}
variable {nm q : Str} {C N : Addr} {bs bm : List Value} {hdct : Bool} {sn : List Str} {sub : List Value} {ab : Bool} {col : Option Bool} {dd : Option Addr} {k0 k1 k2 k3 k5 : Option Value} {B newId initId : String}
theorem check_new_kw (F : ExcBaseFacts B newId initId bm) {rest : List Value} {kw : List (Str × Value)} {Q : Unit → Shared → Prop}
    (hC : h.get? C = some (excClassObj nm q C N bs bm hdct sn sub ab col dd k0 k1 k2 k3 k5 newId)) (hq : Q () ⟨h, g, d, t, os⟩) : wpAny M A (checkBuiltinCall newId ⟨.ref C :: rest, kw⟩) Q E ⟨h, g, d, t, os⟩ := by
  have hcont : (Value.ref C :: bm).contains (.type B) = true := by rw [List.contains_cons, F.hasB, Bool.or_true]
  have hstar := F.noStar
  simp only [checkBuiltinCall, F.newKind, F.newSplit, F.newRow]
  repeat (first | refine wpAny_loadPart_at hC ?_ | (refine wpAny_isSubtype_exc hC ?_; rw [hcont]) | refine wpAny_staticBase_exc hC ?_ | refine wpAny_madeBy_exc hC ?_ | simp only [bne_self_eq_false, Bool.false_eq_true, if_false] | wp_step)
  exact hq
theorem check_type_kw {rest : List Value} {kw : List (Str × Value)} {Q : Unit → Shared → Prop} (hC : h.get? C = some (excClassObj nm q C N bs bm hdct sn sub ab col dd k0 k1 k2 k3 k5 newId))
    (hq : Q () ⟨h, g, d, t, os⟩) : wpAny M A (checkBuiltinCall "type.__call__" ⟨.ref C :: rest, kw⟩) Q E ⟨h, g, d, t, os⟩ := by
  have f3 := tc_sub
  have hT : (⟨h, g, d, t, os⟩ : Shared).TypeIs (.ref C) "type" := ⟨_, hC, rfl⟩
  simp only [checkBuiltinCall, tc_kind, tc_split]
  repeat (any_goals (first | assumption | with_reducible refine wpAny_loadPart_at hC ?_ | with_reducible refine wpAny_onRaise ?_ | with_reducible refine wpAny_map ?_ | wp_step))
end
section
variable {prog : Program} {w : World} {A : Around} {E : Value → Shared → Prop} {R : Result → Shared → Prop} {h : Heap} {g : Array GenState} {d : Drawn} {t : Nat} {os : OsState}
variable {nm q : Str} {C N : Addr} {bs bm : List Value} {hdct : Bool} {sn : List Str} {sub : List Value} {ab : Bool} {col : Option Bool} {dd : Option Addr} {k0 k1 k2 k3 k5 : Option Value} {B newId initId : String}
theorem new_kw (F : ExcBaseFacts B newId initId bm) {rest : List Value} {kw : List (Str × Value)}
    (hC : h.get? C = some (excClassObj nm q C N bs bm hdct sn sub ab col dd k0 k1 k2 k3 k5 newId))
    (hq : R (.ok (.ret (.ref (h.objs.size + 1)))) ⟨(h.push { cls := .type "tuple", data := .seq rest.toArray }).push
      { cls := .ref C, data := .fields #[.ref h.objs.size, .none, .none, .none, .bool false, .none] }, g, d, t, os⟩) (hrest : rest.length ≤ sizeLine) :
    codeAny (model prog w) A (.builtin newId ⟨.ref C :: rest, kw⟩) R ⟨h, g, d, t, os⟩ := by
  have hends := F.ends
  have hcB : (Value.ref C :: bm).contains (.type B) = true := by rw [List.contains_cons, F.hasB, Bool.or_true]
  have hcA : (Value.ref C :: bm).contains (.type "AttributeError") = false := by rw [List.contains_cons, F.noAttr]; rfl
  have hcN : (Value.ref C :: bm).contains (.type "NameError") = false := by rw [List.contains_cons, F.noName]; rfl
  refine codeAny_builtinAt F.entry ?_
  unfold Builtin.«BaseException.__new__»
  refine wpAt_bind ?_
  show wpAt _ _ _ (stack >>= _) _ _ _
  refine wpAt_bind (wpAt_stack fun p below => wpAt_of_wpAny ?_)
  wp_walk
  refine wpAt_of_wpAny ?_
  rw [F.owner]
  repeat (first | with_reducible refine wpAny_madeHere_exc F.canon hC ?_ | with_reducible refine wpAny_loadPart_at hC ?_ | (with_reducible refine wpAny_isSubtype_exc hC ?_; first | rw [hcB] | rw [hcA] | rw [hcN]) | wp_step)
  show R _ _
  rw [Heap.size_push]
  exact hq
theorem type_call_kw (F : ExcBaseFacts B newId initId bm) {rest : List Value} {kw : List (Str × Value)} {fI : Addr} {Q : Fin → Shared → Prop}
    (hC : h.get? C = some (excClassObj nm q C N bs bm hdct sn sub ab col dd k0 k1 k2 k3 k5 newId))
    (hi : W.Looks (model prog w) h (typeLookup (.ref C) "__init__") (some (.ref fI))) (hb : ∀ self, W.Looks (model prog w) h (bindSpecial (.ref fI) self) (.ref fI, [self])) (hrest : rest.length ≤ sizeLine)
    (hq : codeAny (model prog w) A (.call (.ref fI) ⟨.ref (h.objs.size + 1) :: rest, kw⟩)
      (fun r s' => match r with | .ok (.ret v) => v = .none ∧ Q (.done (.ret (.ref (h.objs.size + 1)))) s' | .ok _ => False | .error e => E e s')
      ⟨(h.push (W.kdv_tup rest)).push (excO C h.objs.size), g, d, t, os⟩) :
    wpAny (model prog w) A (Builtin.«type.__call__» ⟨.ref C :: rest, kw⟩) Q E ⟨h, g, d, t, os⟩ := by
  repeat (first | with_reducible refine wpAny_loadPart_at hC ?_ | with_reducible refine wpAny_madeBy_exc hC ?_ | wp_step)
  refine codeAny_call_builtin_code (Code.quiet_builtin _ F.quiet) (check_new_kw F hC ?_)
  refine new_kw F hC ?_ hrest
  show wpAny _ _ _ _ _ _
  have k : ∀ b o, h.get? b = some o → ((h.push (W.kdv_tup rest)).push (excO C h.objs.size)).get? b = some o := fun b o e => Heap.get?_push_of_some _ (Heap.get?_push_of_some _ e)
  have hC₁ := k _ _ hC
  have hget : ((h.push (W.kdv_tup rest)).push (excO C h.objs.size)).get? (h.objs.size + 1) = some (excO C h.objs.size) := by heap_get
  have hcC : (Value.ref C :: bm).contains (.ref C) = true := by simp
  have i1 := hi.keeps k
  have b1 := (hb (.ref (h.objs.size + 1))).keeps k
  unfold isInstance
  repeat (first | with_reducible refine wpAny_loadPart_at hget ?_ | (with_reducible refine wpAny_isSubtype_exc hC₁ ?_; rw [hcC]) | wp_step)
  show wpAny _ _ (typeLookup (.ref C) _) _ _ _
  refine i1.at ?_
  refine wpAny_holding (wpAny_bind (b1.at ?_))
  refine wpAny_bind (wpAny_call (codeAny_mono hq fun r s' z => ?_))
  rcases r with e | (v | _ | _ | _) <;> first | exact z | exact z.elim | skip
  obtain ⟨rfl, z⟩ := z
  first
    | exact wpAny_pure (wpAny_pure z)
    | (wp_walk; exact z)
theorem call_kw (F : ExcBaseFacts B newId initId bm) {rest : List Value} {kw : List (Str × Value)} {fI : Addr}
    (hC : h.get? C = some (excClassObj nm q C N bs bm hdct sn sub ab col dd k0 k1 k2 k3 k5 newId))
    (hi : W.Looks (model prog w) h (typeLookup (.ref C) "__init__") (some (.ref fI))) (hb : ∀ self, W.Looks (model prog w) h (bindSpecial (.ref fI) self) (.ref fI, [self])) (hrest : rest.length ≤ sizeLine)
    (hq : codeAny (model prog w) (A.under (.builtin "type.__call__" ⟨.ref C :: rest, kw⟩)) (.call (.ref fI) ⟨.ref (h.objs.size + 1) :: rest, kw⟩) (W.InitBack (h.objs.size + 1) R)
      ⟨(h.push (W.kdv_tup rest)).push (excO C h.objs.size), g, d, t, os⟩) :
    codeAny (model prog w) A (.call (.ref C) ⟨rest, kw⟩) R ⟨h, g, d, t, os⟩ := by
  have f1 := tc_lookup
  have f2 := tc_bind (.ref C)
  have hTy : (⟨h, g, d, t, os⟩ : Shared).TypeIs (.ref C) "type" := ⟨_, hC, rfl⟩
  refine codeAny_of_tree ?_
  show wpAny _ _ (callAny (.ref C) _) _ _ _
  repeat (any_goals (first | assumption | with_reducible refine wpAny_loadPart_at hC ?_ | wp_step))
  refine ⟨rfl, ?_⟩
  refine codeAny_call_builtin_at (Code.quiet_builtin _ (by decide +kernel)) entry_typeCall (check_type_kw hC (type_call_kw F hC hi hb hrest ?_))
  refine codeAny_mono hq fun r s' z => ?_
  rcases r with e | (v | _ | _ | _) <;> exact z
end
section
open Builtin Builtin.ObjectAttr
variable {prog : Program} {w : World} {A : Around} {E : Value → Shared → Prop} {R : Result → Shared → Prop} {hp : Heap} {g : Array GenState} {d : Drawn} {t : Nat} {os : OsState}
theorem osa_new {K : W.Frag} {name : Str} {tk : Tok} {v : Value} {x C : Addr} {fv : Array Value} {cd : ClassData}
    (X : K.In hp) (hx : hp.get? x = some { cls := .ref C, data := .fields fv }) (hcd : W.clsIn K C = some cd) (hm : refuseLoop (.ref x) "__setattr__" cd.mro = pure ()) (ne : cd.mro.isEmpty = false) (hob : cd.mro.contains (.type "object") = true) (hh : cd.hasDict = true) (ha : W.findIn K (.ref C) name = some none)
    (hq : ∀ h' tk' dx, (∀ b o, b ≠ x → hp.get? b = some o → h'.get? b = some o) → hp.objs.size ≤ dx → dx ≠ x → h'.get? x = some { cls := .ref C, dict := some dx, data := .fields fv } →
      h'.Ns1 dx (fun y => if y = name then some v else none) → R (.ok (.ret .none)) ⟨h', g, d, tk', os⟩) :
    codeAny (model prog w) A (.call (.builtin "object.__setattr__") ⟨[.ref x, .str name tk, v], []⟩) R ⟨hp, g, d, t, os⟩ := by
  have I : W.InstAt hp x { cls := .ref C, data := .fields fv } C none := ⟨hx, rfl, rfl, trivial⟩
  have SF := F.store_object
  have hxs : x ≠ hp.objs.size := Nat.ne_of_lt (Heap.lt_size hx)
  have sub : W.Looks (model prog w) hp (isInstance (.ref x) (.type "object")) true := I.type.andThen (W.looks_mroIn X (by unfold W.mroIn; rw [hcd, Option.bind_some, if_neg (by rw [ne]; decide), hob]))
  refine codeAny_call_builtin SF.slot.plain SF.entry (@W.check_slot (model prog w) _ _ ⟨hp, g, d, t, os⟩ "object.__setattr__" "object" "__setattr__" (.ref x) [.str name tk, v] [] _ SF.kind SF.split sub (SF.args (.ref x) (.str name tk) v) ?_)
  have hmr : W.Looks (model prog w) hp (mroOf (.ref C)) cd.mro := (W.looks_clsIn X hcd).andThen .now
  have L3 : W.Looks (model prog w) hp (storeTaker? none) none := .now
  have hcls : W.Looks (model prog w) hp (classData C) cd := W.looks_clsIn X hcd
  rw [W.osa_eq, refuse_eq]
  refine wpAny_bind (wpAny_bind (I.type.at (wpAny_bind (hmr.at ?_))))
  rw [hm]
  refine wpAny_pure (wpAny_bind (I.type.at (wpAny_bind ((W.looks_findIn X ha).at (wpAny_bind (L3.at ?_))))))
  show wpAny _ _ (storeInOwnDict (.ref x) (.ref C) (.str name tk) name v false) _ _ _
  obtain ⟨nm, bs, mro, ns, qn, hd, sn, sb, ab, col, del⟩ := cd
  dsimp only at hh
  subst hh
  unfold storeInOwnDict ownDictForStores
  repeat (first | with_reducible refine store_in_new ?_ ?_ | with_reducible refine wpAny_loadPart_at hx ?_ | with_reducible refine hcls.at ?_ | wp_step)
  · exact ⟨_, #[], _, (Heap.get?_update_ne _ _ _ _ hxs.symm).trans (Heap.get?_push_at rfl rfl), rfl, fun e he => absurd he (by simp), fun _ => rfl⟩
  · intro h' tk' hn' hs
    have hx₁ : (hp.push { cls := .type "dict", data := .dict #[] }).get? x = some { cls := .ref C, data := .fields fv } := Heap.get?_push_of_some _ hx
    refine hq h' tk' hp.objs.size (fun b o hb ho => ?_) (Nat.le_refl _) hxs.symm ?_ hn'
    · exact (hs.2 b (Nat.ne_of_lt (Heap.lt_size ho))).trans ((Heap.get?_update_ne _ _ _ _ hb).trans (Heap.get?_push_of_some _ ho))
    · exact (hs.2 x hxs).trans (Heap.get?_update_self _ hx₁ rfl)
end
end MEX
end PySem
namespace PySem
namespace MEX
open PySem.W PySem.Calls PyProof.Rows PySem.HandSPX
/-- what the written part says of the class at C, straight over B -/
structure ECls (prog : Program) (K : Frag) (mg : Str → Option Value) (nm : Str) (C fI : Addr) (B newId initId : String) (bm : List Value) : Prop where
  base : BaseE B newId initId bm
  gC : mg nm = some (.ref C)
  cls : ∃ nm q N bs sn sub ab col dd k0 k1 k2 k3 k5, K.lookup C = some (excClassObj nm q C N bs bm true sn sub ab col dd k0 k1 k2 k3 k5 newId)
  sa : findIn K (.ref C) "__setattr__" = some (some (.builtin "object.__setattr__"))
  ga : findIn K (.ref C) "__getattribute__" = some (some (.builtin "BaseException.__getattribute__"))
  gg : findIn K (.ref C) "__getattr__" = some none
  iC : findIn K (.ref C) "__init__" = some (some (.ref fI))
  tC : typeIn K (.ref fI) = some (.type "function")
  kC : keepIn K (.ref C) = true
  exC : subIn K (.ref C) (.type "BaseException") = some true
  beC : subIn K (.ref C) (.type B) = some true
  hdC : hasDictIn K C = true
  mC : mroIn K C (.ref C) = some true
  su : ks_superIn K C C "__init__" = some (some (.builtin initId))
  tp : nsIn K cStatics "thirdparty.any" = some none
  noS : mg "super" = none
  top : (prog.main.scope.names.lookup ("super" : Str)).isSome = false
  cl1 : findIn K (.ref C) "__class__" = some (some (.builtin "object.__class__"))
  cl2 : specialIn K (.builtin "object.__class__") "__get__" = some (some (.builtin "getset_descriptor.__get__"))
  cl3 : takesIn K (.builtin "object.__class__") = some true
  cl4 : mroIn K C (.type "object") = some true
/-- what __init__ leaves of a fresh error at x -/
structure InitN (fs : List (Str × Value)) (h h' : Heap) (x C t1 : Addr) (d : Option Addr) : Prop where
  keep : ∀ b o, b ≠ x → h.get? b = some o → h'.get? b = some o
  obj : h'.get? x = some { cls := .ref C, dict := d, data := .fields #[.ref t1, .none, .none, .none, .bool false, .none] }
  dict : match d with
    | none => fs = []
    | some dx => h.objs.size ≤ dx ∧ dx ≠ x ∧ h'.Ns1 dx (fun y => fs.lookup y)
/-- a made error -/
structure MadeN (fs : List (Str × Value)) (h h' : Heap) (e C : Addr) (d : Option Addr) : Prop where
  keep : ∀ b o, h.get? b = some o → h'.get? b = some o
  new : h.objs.size ≤ e
  obj : ∃ t1, h'.get? e = some { cls := .ref C, dict := d, data := .fields #[.ref t1, .none, .none, .none, .bool false, .none] }
  dict : match d with
    | none => fs = []
    | some dx => h.objs.size ≤ dx ∧ dx ≠ e ∧ h'.Ns1 dx (fun y => fs.lookup y)
theorem lk1 (f : Str) (v : Value) : (fun y => if y = f then some v else none) = (fun y => List.lookup y [(f, v)]) := by
  funext y
  by_cases h : y = f
  · subst h; simp [List.lookup]
  · have q : (y == f) = false := by simpa using h
    simp [List.lookup, q, h]
def iA1 (f1 : Str) (p0 p1 : Pos) : Arguments := { posonlyargs := [], args := [{ arg := "self", annotation := none, pos := p0 }, { arg := f1, annotation := none, pos := p1 }], vararg := none, kwonlyargs := [], kw_defaults := [], kwarg := none, defaults := [] }
def iB1 (f1 : Str) (q1 q2 q3 q5 q6 a1 b1 c1 d1 e1 : Pos) : List Stmt := [.Expr (.Call (.Attribute (.Call (.Name "super" q1) [] [] q2) "__init__" q3) [.Name f1 a1] [] q5) q6, .Assign [.Attribute (.Name "self" b1) f1 c1] (.Name f1 d1) e1]
def iS1 (f1 : Str) : Scope := { kind := .function, names := [(PySem.Str.ofString "self", .local), (f1, .local), (PySem.Str.ofString "__class__", .free), (PySem.Str.ofString "super", .globalImplicit)], isGenerator := false, isCoroutine := false, more := [] }
structure FOk1 (f1 : Str) : Prop where
  dbg1 : (f1 == ("__debug__" : Str)) = false
  lf1 : (iS1 f1).names.lookup f1 = some .local
  ns1 : (("self" : Str) == f1) = false
  lc : (iS1 f1).names.lookup ("__class__" : Str) = some .free
  ls : (iS1 f1).names.lookup ("super" : Str) = some .globalImplicit
  bp : ∀ (qual : Str) (p0 p1 : Pos) (body : List Stmt) (doc pm : Value) (an : Option Addr) (cd ct : Value) (cc : Addr) (x v1 : Value), bindArgs (ksFn "__init__" qual (iA1 f1 p0 p1) body (iS1 f1) .none .none doc pm an cd ct cc) ⟨[x, v1], []⟩ = pure ([(("self" : Str), x), (f1, v1)] : List (Str × Value))
  bk : ∀ (qual : Str) (p0 p1 : Pos) (body : List Stmt) (doc pm : Value) (an : Option Addr) (cd ct : Value) (cc : Addr) (x v1 : Value), bindArgs (ksFn "__init__" qual (iA1 f1 p0 p1) body (iS1 f1) .none .none doc pm an cd ct cc) ⟨[x], [(f1, v1)]⟩ = pure ([(("self" : Str), x), (f1, v1)] : List (Str × Value))
structure EFn1 (prog : Program) (K : Frag) (C fI : Addr) (f1 : Str) : Prop where
  fok : FOk1 f1
  no1 : findIn K (.ref C) f1 = some none
  fn : ∃ (qual : Str) (oc : Value) (od : Option Addr) (doc pm : Value) (an : Option Addr) (cda : Addr) (ct : Value) (cc : Addr) (osl : Array (Option Value)) (p0 p1 q1 q2 q3 q5 q6 a1 b1 c1 d1 e1 : Pos),
    K.lookup fI = some ⟨oc, od, .func (ksFn "__init__" qual (iA1 f1 p0 p1) (iB1 f1 q1 q2 q3 q5 q6 a1 b1 c1 d1 e1) (iS1 f1) .none .none doc pm an (.ref cda) ct cc), osl⟩ ∧ codeIn K (.ref cda) qual = true ∧
    (∃ ccl cdd vs ccs file tf, K.lookup cda = some ⟨ccl, cdd, .fields vs, ccs⟩ ∧ vs[2]? = some (.str file tf) ∧ ((prog.main.file : Str) == file) = true) ∧
    (∃ cl cld csl, K.lookup cc = some ⟨cl, cld, .cell (some (.ref C)), csl⟩) ∧ (q3.endLine == q5.line) = true
section
variable {prog : Program} {w : World} {A : Around} {E : Value → Shared → Prop} {R : Result → Shared → Prop} {s : Shared} {K : Frag} {mg : Str → Option Value} {nm : Str} {C fI : Addr} {B newId initId : String} {bm : List Value}
theorem sup_init1 (T : ECls prog K mg nm C fI B newId initId bm) {f1 : Str} (G : EFn1 prog K C fI f1) {x t0 : Addr} {v1 : Value} {args : Args} (hbd : ∀ (qual : Str) (p0 p1 : Pos) (body : List Stmt) (doc pm : Value) (an : Option Addr) (cd ct : Value) (cc : Addr), bindArgs (ksFn "__init__" qual (iA1 f1 p0 p1) body (iS1 f1) .none .none doc pm an cd ct cc) args = pure ([(("self" : Str), Value.ref x), (f1, v1)] : List (Str × Value)))
    (X : K.In s.heap) (hlim : s.heap.NoLimit) (hx : s.heap.get? x = some (excO C t0)) (hnx : K.lookup x = none) (hroom : A.depth < recursionLimit)
    (hG : s.heap.Ns mainGlobals mg) (hB : ∃ mb, s.heap.Ns builtinsNs mb ∧ ∀ x : Str, x ≠ "__name__" → mb x = bootBuiltins x)
    (hq : ∀ h' tk d t1, InitN [(f1, v1)] s.heap h' x C t1 d → R (.ok (.ret .none)) { s with heap := h', toks := tk }) :
    codeAny (model prog w) A (.call (.ref fI) args) R s := by
  obtain ⟨qual, oc, od, doc, pm, an, cda, ct, cc, osl, p0, p1, q1, q2, q3, q5, q6, a1, b1, c1, d1, e1, hl, hcd, ⟨ccl, cdd, vs, ccs, file, tf, hcode, hvs, hfile⟩, ⟨cl, cld, csl, hcell⟩, hpos⟩ := G.fn
  obtain ⟨cnm, q, N, bs, sn, sub, ab, col, dd, k0, k1, k2, k3, k5, hC⟩ := T.cls
  obtain ⟨mb, hBn, hBv⟩ := hB
  have hcl : clsIn K C = some { name := cnm, bases := bs, mro := .ref C :: bm, ns := N, qualname := q, hasDict := true, slotNames := sn, subclasses := sub, abstract := ab, collection := col, hasDel := false } := by unfold clsIn; rw [hC] <;> rfl
  obtain ⟨hp, g, d, tk, os⟩ := s
  refine ks_codeAny_call_defAt (fd := ksFn "__init__" qual (iA1 f1 p0 p1) (iB1 f1 q1 q2 q3 q5 q6 a1 b1 c1 d1 e1) (iS1 f1) .none .none doc pm an (.ref cda) ct cc) (body := (iB1 f1 q1 q2 q3 q5 q6 a1 b1 c1 d1 e1)) (binds := [(("self" : Str), Value.ref x), (f1, v1)]) hroom (X _ _ hl) rfl hlim (codeRec_of X hcd) rfl (BindsTo.of_eq (hbd _ _ _ _ _ _ _ _ _ _)) ?hce ?hlo (fun h₁ hns hk₁ => ?_) rfl rfl rfl
  case hce => intro y hy; simp only [iS1, List.mem_cons, List.not_mem_nil, or_false] at hy; rcases hy with rfl | rfl | rfl | rfl <;> simp
  case hlo =>
    intro y hy
    simp only [List.mem_cons, List.not_mem_nil, or_false] at hy
    rcases hy with rfl | rfl
    · rfl
    · exact G.fok.lf1
  have X₁ : K.In h₁ := X.keeps hk₁
  have hx₁ := hk₁ _ _ hx
  have mv1 : (fun y => ([("self", Value.ref x), (f1, v1)] : List (Str × Value)).reverse.lookup y) f1 = some v1 := by simp [List.lookup]
  have mself : (fun y => ([("self", Value.ref x), (f1, v1)] : List (Str × Value)).reverse.lookup y) "self" = some (.ref x) := by simp [List.lookup, G.fok.ns1]
  have hns' : Heap.Ns h₁ hp.objs.size (fun y => ([("self", Value.ref x), (f1, v1)] : List (Str × Value)).reverse.lookup y) := hns
  have I₁ : InstAt h₁ x (excO C t0) C none := ⟨hx₁, rfl, rfl, trivial⟩
  show _root_.PySem.wpAt _ _ _ (execs (iB1 f1 q1 q2 q3 q5 q6 a1 b1 c1 d1 e1) (ksEnv qual (iS1 f1) hp.objs.size fI (.ref cda) cc)) _ _ _
  have hmc : ∀ ov, methodCall (.Call (.Name "super" q1) [] [] q2) "__init__" q3 q5 (ksEnv qual (iS1 f1) hp.objs.size fI (.ref cda) cc) ov 1 (backTo q5 (starEach [.Name f1 a1] (ksEnv qual (iS1 f1) hp.objs.size fI (.ref cda) cc))) [] = (do
      let (ff, first) ← holding [ov] (getMethod ov "__init__" (L2.plainOf (.Call (.Name "super" q1) [] [] q2) (ksEnv qual (iS1 f1) hp.objs.size fI (.ref cda) cc)))
      callWith q5 ff first (backTo q5 (starEach [.Name f1 a1] (ksEnv qual (iS1 f1) hp.objs.size fI (.ref cda) cc))) []) := fun ov => L2.mcall_line rfl hpos
  refine ks_wpAt_execs_cons (ks_wpAt_Expr_any (ks_wpAt_MethodCall (pl := L2.plainOf (.Call (.Name "super" q1) [] [] q2) (ksEnv qual (iS1 f1) hp.objs.size fI (.ref cda) cc)) ?_ ?he))
  case he =>
    show (do
      let ov ← attributeBase (.Call (.Name "super" q1) [] [] q2) "__init__" (ksEnv qual (iS1 f1) hp.objs.size fI (.ref cda) cc) (eval (.Call (.Name "super" q1) [] [] q2) (ksEnv qual (iS1 f1) hp.objs.size fI (.ref cda) cc))
      standAt q3.atName
      methodCall (.Call (.Name "super" q1) [] [] q2) "__init__" q3 q5 (ksEnv qual (iS1 f1) hp.objs.size fI (.ref cda) cc) ov 1 (backTo q5 (starEach [.Name f1 a1] (ksEnv qual (iS1 f1) hp.objs.size fI (.ref cda) cc))) []) = _
    simp only [hmc]
  refine ks_wpAt_super_base (env := ksEnv qual (iS1 f1) hp.objs.size fI (.ref cda) cc) (f := fI) (cc := cda) G.fok.ls G.fok.lc (by decide) rfl (X₁ _ _ hl) rfl rfl rfl (X₁ _ _ hcode) rfl hvs hfile T.top ?_
  refine ks_loadName_global rfl G.fok.ls (loadGlobal_builtin (env := ksEnv qual (iS1 f1) hp.objs.size fI (.ref cda) cc) (hG.keeps hk₁) T.noS (hBn.keeps hk₁) ((hBv _ (by decide +kernel)).trans (by first | rfl | decide +kernel | kernel_rfl)) ⟨rfl, ?_⟩)
  refine wpAny_loadName_free rfl G.fok.lc rfl ⟨_, X₁ _ _ hcell, rfl⟩ ?_
  refine wpAny_loadName_local rfl rfl hns' mself ?_
  refine ks_wpAny_isType_cls (X₁ _ _ hC) rfl ⟨rfl, ?_⟩
  refine ks_wpAny_call_super (X₁ _ _ hC) rfl hx₁ rfl (fun c e => by cases e) (looks_mroIn X₁ T.mC) (fun h₂ e₂ k₂ => ?_)
  have X₂ : K.In h₂ := X₁.keeps k₂
  have hx₂ := k₂ _ _ hx₁
  have I₂ : InstAt h₂ x (excO C t0) C none := ⟨hx₂, rfl, rfl, trivial⟩
  have hns₂ := hns'.keeps k₂
  have hal : alongIn K "__init__" (((Value.ref C :: bm).dropWhile (· != .ref C)).drop 1) = some (some (.builtin initId)) := by
    have z := T.su
    unfold ks_superIn at z
    rw [hcl] at z
    exact z
  refine kxs_getMethod T.base.KF (so := h₁.objs.size) (D := C) (x := x) (C := C) (l₀ := .ref C :: bm) (K := K) e₂ (looks_opaque X₂ T.tp) (fun A Q E s k q => wpAny_bind ((looks_clsIn X₂ hcl) A _ E s k (wpAny_pure q))) rfl X₂ hal (I₂.type.andThen (looks_subIn X₂ T.beC)) (ks_ne X₂ I₂ hcl) (by decide) ?_
  have k₃ : ∀ b o, h₂.get? b = some o → (h₂.push (kxs_mw initId x)).get? b = some o := fun b o e => Heap.get?_push_of_some _ e
  have hmw : (h₂.push (kxs_mw initId x)).get? h₂.objs.size = some (kxs_mw initId x) := Heap.get?_push_at rfl rfl
  refine kxs_callWith (i := initId) (x := x) rfl (evalArgs_plain ?_)
  refine spliced_cons (wpAny_Name (wpAny_loadName_local rfl G.fok.lf1 (hns₂.keeps k₃) mv1 ?_) G.fok.dbg1)
  refine spliced_nil ⟨hmw, ?_⟩
  have FB := T.base.F
  refine wpAny_call (codeAny_of_tree ?_)
  show wpAny _ _ (callAny (.ref h₂.objs.size) ⟨[v1], []⟩) _ _ _
  simp only [callAny]
  refine wpAny_bind (wpAny_load hmw ?_)
  simp only [kxs_mw, show (Value.type "method-wrapper" == Value.type "method" || Value.type "method-wrapper" == Value.type "builtin_function_or_method" || Value.type "method-wrapper" == Value.type "method-wrapper") = true by decide, if_true]
  refine KFB.if_so (by decide) ?_
  refine wpAny_bind (check_bound_init FB.toExcCallFacts (k₃ _ _ (X₂ _ _ hC)) (k₃ _ _ hx₂) rfl ?_)
  refine wpAny_bind (wpAny_pure (wpAny_pure ?_))
  refine ⟨plainId_quiet FB.init.plain _, codeAny_builtin FB.initEntry ?_⟩
  refine exc_init_tree (cls := .ref C) (t0 := t0) (dv := none) (c2 := .none) (c3 := .none) (b4 := .bool false) (k₃ _ _ hx₂) (by rw [sizeLine_eq]; exact (by decide : 1 ≤ 16777216)) fun h₄ k₄ hx₄ _ => ?_
  have hxL : hp.objs.size ≠ x := Nat.ne_of_gt (Heap.lt_size hx)
  have X₄ : K.In h₄ := fun a o e => k₄ a o (fun z => by rw [z, hnx] at e; cases e) (k₃ a o (X₂ a o e))
  have kp₄ : ∀ b o, b ≠ x → hp.get? b = some o → h₄.get? b = some o := fun b o hb e => k₄ b o hb (k₃ b o (k₂ b o (hk₁ b o e)))
  have hns₄ : Heap.Ns h₄ hp.objs.size (fun y => ([("self", Value.ref x), (f1, v1)] : List (Str × Value)).reverse.lookup y) := by
    obtain ⟨oL, es, ep, hL, r⟩ := hns₂.keeps k₃
    exact ⟨oL, es, ep, k₄ _ _ hxL hL, r⟩
  have hle : hp.objs.size ≤ h₄.objs.size := Nat.le_of_lt hns₄.lt
  show _root_.PySem.wpAt _ _ _ (execs _ _) _ _ _
  refine ks_wpAt_execs_cons (ks_wpAt_Assign_Attr (wpAt_of_wpAny ?_))
  refine wpAny_Name (wpAny_loadName_local rfl G.fok.lf1 hns₄ mv1 ?_) G.fok.dbg1
  refine wpAny_Name (wpAny_loadName_local rfl rfl hns₄ mself ?_) (by decide)
  refine set_plain X₄ (od := none) ⟨hx₄, rfl, rfl, trivial⟩ T.sa ?_
  refine osa_new X₄ hx₄ hcl (by rw [refuseLoop_ref]; exact T.base.pass _) rfl (by rw [List.contains_cons, T.base.ob, Bool.or_true]) rfl G.no1 (fun h₅ tk₅ dx k₅ dn dne hx₅ hn₅ => ?_)
  rw [lk1] at hn₅
  show _root_.PySem.wpAt _ _ _ (execs _ _) _ _ _
  exact wpAt_of_wpAny (wpAny_execs_nil (hq h₅ tk₅ (some dx) _ ⟨fun b o hb e => k₅ b o hb (kp₄ b o hb e), hx₅, Nat.le_trans hle dn, dne, hn₅⟩))
theorem made1 (T : ECls prog K mg nm C fI B newId initId bm) {f1 : Str} (G : EFn1 prog K C fI f1) {v1 : Value} {rest : List Value} {kw : List (Str × Value)} (hbd : ∀ (x : Value) (qual : Str) (p0 p1 : Pos) (body : List Stmt) (doc pm : Value) (an : Option Addr) (cd ct : Value) (cc : Addr), bindArgs (ksFn "__init__" qual (iA1 f1 p0 p1) body (iS1 f1) .none .none doc pm an cd ct cc) ⟨x :: rest, kw⟩ = pure ([(("self" : Str), x), (f1, v1)] : List (Str × Value)))
    (hz : rest.length ≤ sizeLine) (X : K.In s.heap) (hlim : s.heap.NoLimit) (hroom : A.depth + 1 < recursionLimit)
    (hG : s.heap.Ns mainGlobals mg) (hB : ∃ mb, s.heap.Ns builtinsNs mb ∧ ∀ x : Str, x ≠ "__name__" → mb x = bootBuiltins x)
    (hq : ∀ h' tk e d, MadeN [(f1, v1)] s.heap h' e C d → R (.ok (.ret (.ref e))) { s with heap := h', toks := tk }) :
    codeAny (model prog w) A (.call (.ref C) ⟨rest, kw⟩) R s := by
  obtain ⟨cnm, q, N, bs, sn, sub, ab, col, dd, k0, k1, k2, k3, k5, hC⟩ := T.cls
  obtain ⟨hp, g, dr, tk, os⟩ := s
  have k : ∀ b o, hp.get? b = some o → ((hp.push (kdv_tup rest)).push (excO C hp.objs.size)).get? b = some o := fun b o e => Heap.get?_push_of_some _ (Heap.get?_push_of_some _ e)
  have hget : ((hp.push (kdv_tup rest)).push (excO C hp.objs.size)).get? (hp.objs.size + 1) = some (excO C hp.objs.size) := by heap_get
  have hnx : K.lookup (hp.objs.size + 1) = none := by
    cases e : K.lookup (hp.objs.size + 1) with
    | none => rfl
    | some o =>
      have z : hp.get? (hp.objs.size + 1) = some o := X _ _ e
      exact absurd (Nat.lt_of_succ_lt (Heap.lt_size z)) (Nat.lt_irrefl _)
  refine call_kw T.base.F (X _ _ hC) (looks_findIn X T.iC) (fun self => bind_fn X self T.tC) hz ?_
  refine sup_init1 (s := ⟨(hp.push (kdv_tup rest)).push (excO C hp.objs.size), g, dr, tk, os⟩) T G (hbd _) (X.keeps k) (hlim.keeps k) hget hnx hroom (hG.keeps k) (let ⟨mb, b1, b2⟩ := hB; ⟨mb, b1.keeps k, b2⟩) fun h' tk' d t1 ⟨k', hx, hd⟩ => ?_
  have old : ∀ b o, hp.get? b = some o → h'.get? b = some o := fun b o e => k' b o (Nat.ne_of_lt (Nat.lt_succ_of_lt (Heap.lt_size e))) (k b o e)
  refine ⟨rfl, hq h' tk' (hp.objs.size + 1) d ⟨old, Nat.le_succ _, ⟨_, hx⟩, ?_⟩⟩
  cases d with
  | none => exact hd
  | some dx =>
    obtain ⟨dn, dne, hns⟩ := hd
    have z : hp.objs.size + 1 + 1 ≤ dx := by
      first
        | (simpa only [Heap.size_push] using dn)
        | exact dn
        | (have q := dn; rw [Heap.size_push, Heap.size_push] at q; exact q)
    exact ⟨Nat.le_trans (Nat.le_trans (Nat.le_succ _) (Nat.le_succ _)) z, dne, hns⟩
end
end MEX
end PySem
namespace MCH
open PySem PySem.Spec PyProof.Rows L2 PySem.W PySem.MEX PySem.HandSPX He
/-- an own error: its class's name, its fields, its base, its __init__ -/
structure ED where
  nm : Str
  fs : List Str
  B : String
  st : Stmt
def ED.nw (x : ED) : String := x.B ++ ".__new__"
def ED.ini (x : ED) : String := x.B ++ ".__init__"
def fnE (K : Frag) (x : ED) : FnV := match K.lookup (ma K (ga K x.nm) "__init__") with
  | some ⟨_, _, .func fd, _⟩ => some (fd.name, fd.params, fd.body, fd.scope, fd.globals, fd.builtins)
  | _ => none
def ED.val (x : ED) : FnV := some ("__init__", defArgs x.st, .stmts (defBody x.st), defScope x.st, mainGlobals, builtinsNs)
def ecB (K : Frag) (C : Addr) (newId : String) (bm : List Value) : Bool := match K.lookup C with
  | some ⟨.type c, _, .cls cd, sl⟩ => decide (c = "type") && (match cd.mro, sl.toList with
    | .ref C' :: bm', [_, _, _, _, some (.builtin n), _] => decide (C' = C) && (decide (n = newId) && (!cd.hasDel && (cd.hasDict && (bm' == bm))))
    | _, _ => false)
  | _ => false
theorem ecB_ok {K : Frag} {C : Addr} {newId : String} {bm : List Value} (h : ecB K C newId bm = true) : ∃ nm q N bs sn sub ab col dd k0 k1 k2 k3 k5, K.lookup C = some (excClassObj nm q C N bs bm true sn sub ab col dd k0 k1 k2 k3 k5 newId) := by
  unfold ecB at h
  cases q : K.lookup C with
  | none => rw [q] at h; cases h
  | some o =>
    obtain ⟨oc, od, dt, sl⟩ := o
    rw [q] at h
    cases oc with
    | type c =>
      cases dt with
      | cls cd =>
        obtain ⟨h1, h2⟩ := ba h
        have e1 : c = "type" := of_decide_eq_true h1
        subst e1
        obtain ⟨nm, bs, mro, ns, qn, hd, sn, sb, ab, col, del⟩ := cd
        obtain ⟨sl⟩ := sl
        dsimp only at h2
        split at h2
        · rename_i C' bm' k0 k1 k2 k3 n k5
          obtain ⟨a1, h3⟩ := ba h2
          obtain ⟨a2, h4⟩ := ba h3
          obtain ⟨a3, h5⟩ := ba h4
          obtain ⟨a4, a5⟩ := ba h5
          have z1 := of_decide_eq_true a1
          have z2 := of_decide_eq_true a2
          have z3 := beq_iff_eq.mp a5
          subst z1 z2 z3
          simp only [Bool.not_eq_true'] at a3
          subst a3 a4
          exact ⟨nm, qn, ns, bs, sn, sb, ab, col, od, k0, k1, k2, k3, k5, rfl⟩
        · cases h2
      | _ => cases h
    | _ => cases dt <;> cases h
def eB (prog : Program) (bm : String → List Value) (K : Frag) (x : ED) : Bool :=
  eqO (nsIn K mainGlobals x.nm) (some (some (.ref (ga K x.nm)))) && (ecB K (ga K x.nm) x.nw (bm x.B) && (eqO (findIn K (.ref (ga K x.nm)) "__setattr__") (some (some (.builtin "object.__setattr__"))) &&
  (eqO (findIn K (.ref (ga K x.nm)) "__getattribute__") (some (some (.builtin "BaseException.__getattribute__"))) && (eqO (findIn K (.ref (ga K x.nm)) "__getattr__") (some none) && ((x.fs.all fun f => eqO (findIn K (.ref (ga K x.nm)) f) (some none)) &&
  (eqO (findIn K (.ref (ga K x.nm)) "__init__") (some (some (.ref (ma K (ga K x.nm) "__init__")))) && (decide (typeIn K (.ref (ma K (ga K x.nm) "__init__")) = some (.type "function")) && (keepIn K (.ref (ga K x.nm)) &&
  (decide (subIn K (.ref (ga K x.nm)) (.type "BaseException") = some true) && (decide (subIn K (.ref (ga K x.nm)) (.type x.B) = some true) && (hasDictIn K (ga K x.nm) &&
  (decide (mroIn K (ga K x.nm) (.ref (ga K x.nm)) = some true) && (eqO (ks_superIn K (ga K x.nm) (ga K x.nm) "__init__") (some (some (.builtin x.ini))) &&
  (eqO (nsIn K cStatics "thirdparty.any") (some none) && (eqO (nsIn K mainGlobals "super") (some none) &&
  (eqO (findIn K (.ref (ga K x.nm)) "__class__") (some (some (.builtin "object.__class__"))) && (eqO (specialIn K (.builtin "object.__class__") "__get__") (some (some (.builtin "getset_descriptor.__get__"))) && (decide (takesIn K (.builtin "object.__class__") = some true) &&
  (decide (mroIn K (ga K x.nm) (.type "object") = some true) && fnB prog K (ga K x.nm) (ma K (ga K x.nm) "__init__"))))))))))))))))))))
theorem eB_ok {prog : Program} {bmf : String → List Value} {K : Frag} {h : Heap} {mg : Str → Option Value} (X : K.In h) (G : h.Ns mainGlobals mg) {x : ED} (c : eB prog bmf K x = true) (htop : (prog.main.scope.names.lookup ("super" : Str)).isSome = false)
    (b : BaseE x.B x.nw x.ini (bmf x.B)) :
    ECls prog K mg x.nm (ga K x.nm) (ma K (ga K x.nm) "__init__") x.B x.nw x.ini (bmf x.B) ∧ (∀ f ∈ x.fs, findIn K (.ref (ga K x.nm)) f = some none) ∧ fnB prog K (ga K x.nm) (ma K (ga K x.nm) "__init__") = true := by
  unfold eB at c
  simp only [Bool.and_eq_true] at c
  obtain ⟨c1, c2, c3, c4, c5, c6, c7, c8, c9, c10, c11, c13, c15, c16, c17, c18, d1, d2, d3, d4, c19⟩ := c
  exact ⟨{ base := b, gC := mg_of X G (eqO_ok c1), cls := ecB_ok c2, sa := eqO_ok c3, ga := eqO_ok c4, gg := eqO_ok c5, iC := eqO_ok c7, tC := of_decide_eq_true c8, kC := c9, exC := of_decide_eq_true c10, beC := of_decide_eq_true c11, hdC := c13, mC := of_decide_eq_true c15, su := eqO_ok c16, tp := eqO_ok c17, noS := mg_none_of X G (eqO_ok c18), top := htop, cl1 := eqO_ok d1, cl2 := eqO_ok d2, cl3 := of_decide_eq_true d3, cl4 := of_decide_eq_true d4 },
    fun f hf => eqO_ok (List.all_eq_true.mp c6 f hf), c19⟩
theorem eFn1_ok {prog : Program} {K : Frag} {x : ED} {f1 : Str} (c19 : fnB prog K (ga K x.nm) (ma K (ga K x.nm) "__init__") = true) (no : ∀ f ∈ x.fs, findIn K (.ref (ga K x.nm)) f = some none) (e : fnE K x = x.val) (fok : FOk1 f1) (hfs : x.fs = [f1])
    {p0 p1 q1 q2 q3 q5 q6 a1 b1 c1 d1 e1 : Pos} (eA : defArgs x.st = iA1 f1 p0 p1) (eB : defBody x.st = iB1 f1 q1 q2 q3 q5 q6 a1 b1 c1 d1 e1) (eS : defScope x.st = iS1 f1) (hpos : (q3.endLine == q5.line) = true) :
    EFn1 prog K (ga K x.nm) (ma K (ga K x.nm) "__init__") f1 := by
  refine { fok := fok, no1 := no f1 (by rw [hfs]; simp), fn := ?_ }
  unfold fnB at c19
  unfold fnE ED.val at e
  cases q : K.lookup (ma K (ga K x.nm) "__init__") with
  | none => rw [q] at c19; cases c19
  | some o =>
    obtain ⟨oc, od, dt, osl⟩ := o
    rw [q] at c19 e
    cases dt with
    | func fd =>
      obtain ⟨n1, n2, n3, n4, n5, n6, n7, n8, n9, n10, n11, n12, n13, n14, n15⟩ := fd
      simp only [Option.some.injEq, Prod.mk.injEq] at e
      obtain ⟨h1, h3, h4, h5, h6, h8⟩ := e
      rw [eA] at h3
      rw [eB] at h4
      rw [eS] at h5
      subst h1 h3 h4 h5 h6 h8
      dsimp only at c19
      simp only [Bool.and_eq_true, decide_eq_true_eq] at c19
      obtain ⟨d1, d2, d3⟩ := c19
      subst d1 d2
      split at d3
      · rename_i cda y cc
        simp only [Bool.and_eq_true, decide_eq_true_eq] at d3
        obtain ⟨m1, m2, m3, m4⟩ := d3
        subst m1
        refine ⟨n2, oc, od, n10, n11, n12, cda, n14, cc, osl, p0, p1, q1, q2, q3, q5, q6, a1, b1, c1, d1, e1, rfl, m2, ?_, ?_, hpos⟩
        · split at m3
          · rename_i _ _ vs _ e1
            split at m3
            · rename_i file tf e2
              exact ⟨_, _, vs, _, file, tf, e1, e2, m3⟩
            · cases m3
          · cases m3
        · split at m4
          · rename_i _ _ D _ e1
            have z := of_decide_eq_true m4
            subst z
            exact ⟨_, _, _, e1⟩
          · cases m4
      · cases d3
    | _ => cases c19
end MCH
namespace L2
open PySem PySem.Spec PyProof.Rows
abbrev TM := V → TS
structure PMs (X : Cx) (cs : List MatchCase) (t : TM) : Prop where
  run : ∀ (pins : List (Addr × Obj)) (s : Shared) (σ : St) (H : Hp) (D : Ends) (v : V) (u : Value) (first : Bool), Inv X pins σ H s → RelV v u → t v D σ H → wpAny (model X.prog X.w) X.A (matchCases cs X.env u first) (SP X pins D) X.xe s
end L2
namespace L2
open PySem PySem.Spec PyProof.Rows
end L2
namespace FL
open PySem PySem.Spec PyProof.Rows L2
/-- where the module's names stand; the tables of code objects that lambdas are written to -/
structure Ga where
  f : Str → Addr
  T : List (Addr × Str)
instance : CoeFun Ga (fun _ => Str → Addr) := ⟨Ga.f⟩
inductive Tp where
  | b (n : String) | c (C : Str)
  deriving DecidableEq
def Tp.v (ga : Ga) : Tp → Value
  | .b n => .type n
  | .c C => .ref (ga C)
/-- where a def's lambdas are named -/
def qLam (x : Str) : Str := (x ++ ".<locals>.") ++ "<lambda>"
/-- what isinstance leans on -/
def kitB (K : PySem.W.Frag) (ga : Ga) (cs : List Str) (tab : List (Tp × Tp × Bool)) : Bool :=
  (cs.all fun C => He.eqO (PySem.W.findIn K (.ref (ga C)) "__class__") (some (some (.builtin "object.__class__"))) && decide (PySem.W.mroIn K (ga C) (.type "object") = some true)) &&
  ((He.eqO (PySem.W.specialIn K (.builtin "object.__class__") "__get__") (some (some (.builtin "getset_descriptor.__get__"))) && decide (PySem.W.takesIn K (.builtin "object.__class__") = some true)) &&
  tab.all fun q => decide (PySem.W.kitOne K (q.1.v ga) (q.2.1.v ga) = some q.2.2))
/-- what except leans on -/
def excB (K : PySem.W.Frag) (ga : Ga) (known : List Str) : Bool := (known.all fun c => known.all fun d => decide (PySem.W.exmOne K (.ref (ga c)) (.ref (ga d)) = some (decide (c = d)))) && known.all fun c => decide (PySem.W.typeIn K (.ref (ga c)) = some (.type "type"))
/-- the tables of code of the defs with lambdas, one each -/
def tabsOf (K : PySem.W.Frag) (tf : List He.Defn) : List (Addr × Str) := tf.map fun d => ((He.cT K d).2, qLam d.1)
def distB (K : PySem.W.Frag) (tf : List He.Defn) : Bool := tf.all fun d => tf.all fun d' => decide (d = d') || !decide ((He.cT K d).2 = (He.cT K d').2)
def eqcB (K : PySem.W.Frag) (ga : Ga) (C : Str) (nf : List Tp) : Bool :=
  He.eqO (PySem.W.findIn K (.ref (ga C)) "__ne__") (some (some (.builtin "object.__ne__"))) && (decide (PySem.W.mroIn K (ga C) (.type "object") = some true) && nf.all fun t => PySem.W.notFirst K (ga C) (t.v ga))
end FL
namespace MCH
open PySem PySem.Spec PyProof.Rows L2 PySem.W He PySem.MCX PySem.MEX
abbrev AlR : Type := AlP × List FnV × List (Option (List (Option (Str × Int)))) × Bool
def valR (fn : List DefD) (ps : List PD) (es : List ED) (ts : List He.Tab) (w : World) : AlR := (valP fn [] ps, es.map ED.val, ts.map (fun t => some (He.keysIn w.params t.2)), true)
structure SaysR (prog : Program) (bm : String → List Value) (fa : List Fa) (fn : List DefD) (ps : List PD) (es : List ED) (ts : List He.Tab) (tf : List Defn) (ex : Frag → Bool) (w : World) (h : Heap) (K : Frag) : Prop where
  p : SaysP prog fa fn [] ps (fun K => (es.all fun x => eB prog bm K x) && ex K) K
  x : ∀ x ∈ es, eB prog bm K x = true ∧ fnE K x = x.val
  t : ∀ t ∈ ts, He.dicW K (t.1 K) = some (He.keysIn w.params t.2)
  e : ex K = true
  c : ∀ d ∈ tf, codeHdIn K (cT K d).1 (cT K d).2 = true ∧ K.lookup (cT K d).2 = none ∧ h.get? (cT K d).2 = some tab0
end MCH
namespace MCH
open PySem PySem.Spec PyProof.Rows L2 PySem.W He PySem.MCX PySem.MEX
def refsG (g : Addr → Option Obj) (a : Addr) : List Addr := match g a with
  | some o => refsD o
  | none => []
def newB {α : Type} : List Addr → Nat → List Addr → List Addr → (Nat → List Addr → List Addr → α) → α
  | [], m, nw, acc, k => k m nw acc
  | a :: r, m, nw, acc, k => match Nat.beq (Nat.mod (Nat.shiftRight m a) 2) 0 with
    | true => HandSHeadRun.frNat a fun a => HandSHeadRun.frNat (Nat.add m (Nat.pow 2 a)) fun m => newB r m (a :: nw) (a :: acc) k
    | false => newB r m nw acc k
def layB (g : Addr → Option Obj) : Nat → Nat → List Addr → List Addr → List Addr
  | 0, _, _, acc => acc.reverse
  | n + 1, m, last, acc => newB (last.reverse.flatMap (refsG g)) m [] acc fun m nw acc => layB g n m nw acc
/-- as asM, but each once by a mask -/
def asB (g : Addr → Option Obj) : List Addr := layB g 7 12 [2, 3] [2, 3]
def obsL (as : (Addr → Option Obj) → List Addr) (prog : Program) (bm : String → List Value) (fa : List Fa) (fn : List DefD) (ps : List PD) (es : List ED) (ts : List He.Tab) (tf : List Defn) (ex : Frag → Bool) (g : Addr → Option Obj) : AlR :=
  (obK prog fa fn [] ps (fun K => (es.all fun x => eB prog bm K x) && ex K) (frT g (as g)), es.map (fun x => fnE (frT g (as g)) x), ts.map (fun t => He.dicW (frT g (as g)) (t.1 (frT g (as g)))), tabsB g tf (frT g (as g)))
theorem saysO_ofL {as : (Addr → Option Obj) → List Addr} {prog : Program} {fa : List Fa} {fn : List DefD} {xs : List XD} {ps : List PD} {tf : List Defn} {ex : Frag → Bool} {h : Heap} (e : (obK prog fa fn xs ps ex (frT h.get? (as h.get?)), tabsB h.get? tf (frT h.get? (as h.get?))) = valO fn xs ps) : SaysO prog fa fn xs ps tf ex h (frT h.get? (as h.get?)) := by
  generalize hK : frT h.get? (as h.get?) = K
  have e1 : obK prog fa fn xs ps ex K = valP fn xs ps := by rw [← hK]; exact congrArg (fun z : AlO => z.1) e
  have e2 : tabsB h.get? tf K = true := by rw [← hK]; exact congrArg (fun z : AlO => z.2) e
  have m1 := congrArg (fun z : AlP => z.1.1) e1
  have m2 := congrArg (fun z : AlP => z.1.2.1) e1
  have m3 := congrArg (fun z : AlP => z.1.2.2) e1
  have p1 := congrArg (fun z : AlP => z.2.1) e1
  have p2 := congrArg (fun z : AlP => z.2.2) e1
  obtain ⟨b1, b2⟩ := ba m2
  refine ⟨⟨⟨m1, fun x hx => ⟨List.all_eq_true.mp b1 x hx, map_eq_at m3 x hx⟩, b2⟩, fun x hx => ⟨List.all_eq_true.mp p1 x hx, map_eq_at p2 x hx⟩⟩, fun d hd => ?_⟩
  obtain ⟨c1, c2⟩ := ba (List.all_eq_true.mp e2 d hd)
  cases q : h.get? (cT K d).2 with
  | none => rw [q] at c2; cases c2
  | some o =>
    rw [q] at c2
    refine ⟨c1, ?_, by rw [emptyTab_eq c2]⟩
    have z := frT_none (as := as h.get?) q c2
    rw [hK] at z
    exact z
theorem saysL_of {as : (Addr → Option Obj) → List Addr} {prog : Program} {bm : String → List Value} {fa : List Fa} {fn : List DefD} {ps : List PD} {es : List ED} {ts : List He.Tab} {tf : List Defn} {ex : Frag → Bool} {w : World} {h : Heap} (e : obsL as prog bm fa fn ps es ts tf ex h.get? = valR fn ps es ts w) : SaysR prog bm fa fn ps es ts tf ex w h (frT h.get? (as h.get?)) := by
  have e1 := congrArg (fun z : AlR => z.1) e
  have e2 := congrArg (fun z : AlR => z.2.1) e
  have e3 := congrArg (fun z : AlR => z.2.2.1) e
  have e4 := congrArg (fun z : AlR => z.2.2.2) e
  have c := saysO_ofL (as := as) (prog := prog) (fa := fa) (fn := fn) (xs := []) (ps := ps) (tf := tf) (ex := fun K => (es.all fun x => eB prog bm K x) && ex K) (h := h) (Prod.ext e1 e4)
  obtain ⟨b1, b2⟩ := ba c.p.m.e
  exact ⟨c.p, fun x hx => ⟨List.all_eq_true.mp b1 x hx, map_eq_at e2 x hx⟩, fun t ht => map_eq_at e3 t ht, b2, c.t⟩
def hookL (as : (Addr → Option Obj) → List Addr) (prog : Program) (bm : String → List Value) (fa : List Fa) (fn : List DefD) (ps : List PD) (es : List ED) (ts : List He.Tab) (tf : List Defn) (ex : Frag → Bool) : PySem.W.Hook where
  α := AlR
  obs := fun s => obsL as prog bm fa fn ps es ts tf ex s.heap.get?
  val := fun w => valR fn ps es ts w
  says := fun w h => ∃ K : PySem.W.Frag, K.In h ∧ SaysR prog bm fa fn ps es ts tf ex w h K
  of := fun _ _ e => ⟨_, frT_in, saysL_of e⟩
  keeps := fun _ _ _ ⟨K, hK, c⟩ k => ⟨K, PySem.W.Frag.In.keeps hK k, ⟨c.p, c.x, c.t, c.e, fun d hd => let ⟨z1, z2, z3⟩ := c.c d hd; ⟨z1, z2, k _ _ z3⟩⟩⟩
theorem obsL_eq {as : (Addr → Option Obj) → List Addr} {prog : Program} {bm : String → List Value} {fa : List Fa} {fn : List DefD} {ps : List PD} {es : List ED} {ts : List He.Tab} {tf : List Defn} {ex : Frag → Bool} {g : Addr → Option Obj} {s : Shared} (h : ∀ a, g a = s.heap.get? a) : obsL as prog bm fa fn ps es ts tf ex g = (hookL as prog bm fa fn ps es ts tf ex).obs s := by
  have e : g = s.heap.get? := funext h
  rw [e] <;> rfl
section
open HandSHeadRun
noncomputable section
/-- the state behind the top -/
abbrev endS (p : Program) (M : Nat) (w : World) (os : OsState) : Option SharedT := endF (stepQ (denQ tabQ) p w) M p w os
/-- what is looked at, at that state -/
def At {α : Type} (p : Program) (M : Nat) (w : World) (f : SharedT → α) (a : α) : Prop := ∀ os : OsState, (endS p M w os).map f = some a
theorem At.two {α β : Type} {p : Program} {M : Nat} {w : World} {f : SharedT → α} {g : SharedT → β} {a : α} {b : β} (h : At p M w f a) (k : At p M w g b) : At p M w (fun s => (f s, g s)) (a, b) := fun os => by
  obtain ⟨s, e, q⟩ := Option.map_eq_some_iff.mp (h os)
  have z := k os
  rw [e] at z ⊢
  have z2 : some (g s) = some b := z
  show some (f s, g s) = some (a, b)
  rw [q, Option.some.inj z2]
theorem At.fst {α β : Type} {p : Program} {M : Nat} {w : World} {f : SharedT → α} {g : SharedT → β} {a : α} {b : β} (h : At p M w (fun s => (f s, g s)) (a, b)) : At p M w f a := fun os => by
  obtain ⟨s, e, q⟩ := Option.map_eq_some_iff.mp (h os)
  rw [e]
  exact congrArg some (Prod.mk.inj q).1
theorem At.snd {α β : Type} {p : Program} {M : Nat} {w : World} {f : SharedT → α} {g : SharedT → β} {a : α} {b : β} (h : At p M w (fun s => (f s, g s)) (a, b)) : At p M w g b := fun os => by
  obtain ⟨s, e, q⟩ := Option.map_eq_some_iff.mp (h os)
  rw [e]
  exact congrArg some (Prod.mk.inj q).2
theorem At.and {p : Program} {M : Nat} {w : World} {f g : SharedT → Bool} (h : At p M w f true) (k : At p M w g true) : At p M w (fun s => f s && g s) true := fun os => by
  obtain ⟨s, e, q⟩ := Option.map_eq_some_iff.mp (h os)
  have z := k os
  rw [e] at z ⊢
  have z2 : some (g s) = some true := z
  show some (f s && g s) = some true
  rw [q, Option.some.inj z2]
  rfl
theorem At.app {α : Type} {p : Program} {M : Nat} {w : World} {f g : SharedT → List α} {a b : List α} (h : At p M w f a) (k : At p M w g b) : At p M w (fun s => f s ++ g s) (a ++ b) := fun os => by
  obtain ⟨s, e, q⟩ := Option.map_eq_some_iff.mp (h os)
  have z := k os
  rw [e] at z ⊢
  have z2 : some (g s) = some b := z
  show some (f s ++ g s) = some (a ++ b)
  rw [q, Option.some.inj z2]
section
variable {r : OpenRow} {q : Program} {as : (Addr → Option Obj) → List Addr} {bm : String → List Value} {fa : List Fa} {fn : List DefD} {ps : List PD} {es : List ED} {ts : List He.Tab} {tf : List Defn} {ex : Frag → Bool} {M : Nat} {loose : List PySem.Str} {w : World}
/-- the part of the heap that is looked at -/
abbrev frS_ (as : (Addr → Option Obj) → List Addr) (s : SharedT) : Frag := frT (getT s) (as (getT s))
theorem runL (hL : At r.prog M w (fun s => looksF r.prog (boot_heap w.params) s.abs) true)
    (hS : At r.prog M w (fun s => seenQ q loose (importedModules r.prog.main.body) (fun s => xlAt q [] s && recOk r.toRowW.records s) s.abs) (openGood q loose))
    (hF : At r.prog M w (fun s => fa.all fun f => f.ok (frS_ as s)) true) (hD : At r.prog M w (fun s => fn.all fun d => d.ok (frS_ as s)) true)
    (hN : At r.prog M w (fun s => fn.map fun d => fnW (frS_ as s) d.at_) (fn.map DefD.val))
    (hE : At r.prog M w (fun s => (es.all fun x => eB r.prog bm (frS_ as s) x) && ex (frS_ as s)) true)
    (hP : At r.prog M w (fun s => ps.all fun x => pB (frS_ as s) x) true) (hQ : At r.prog M w (fun s => ps.map fun x => pFn (frS_ as s) x) (ps.map PD.val))
    (hX : At r.prog M w (fun s => es.map fun x => fnE (frS_ as s) x) (es.map ED.val)) (hT : At r.prog M w (fun s => ts.map fun t => He.dicW (frS_ as s) (t.1 (frS_ as s))) (ts.map fun t => some (He.keysIn w.params t.2)))
    (hB : At r.prog M w (fun s => tabsB (getT s) tf (frS_ as s)) true) :
    RunEq r q (hookL as r.prog bm fa fn ps es ts tf ex) (fun s => obsL as r.prog bm fa fn ps es ts tf ex (getT s)) M loose w := fun os => by
  have nE : At r.prog M w (fun _ => true && true) true := fun os => by
    obtain ⟨s, e, _⟩ := Option.map_eq_some_iff.mp (hL os)
    rw [e]; rfl
  have hE' : At r.prog M w (fun s => ([] : List XD).all (fun x => xB r.prog (frS_ as s) x) && ((es.all fun x => eB r.prog bm (frS_ as s) x) && ex (frS_ as s))) true := hE
  have hV : At r.prog M w (fun s => ([] : List XD).map fun x => fnV (frS_ as s) x) (([] : List XD).map XD.val) := fun os => by
    obtain ⟨s, e, _⟩ := Option.map_eq_some_iff.mp (hL os)
    rw [e]; rfl
  have z := At.two hL (At.two hS (At.two (At.two (At.two (At.two (At.and hF hD) hN) (At.two hE' hV)) (At.two hP hQ)) (At.two hX (At.two hT hB)))) os
  exact z
end
end
end
end MCH
namespace FL
open PySem PySem.Spec PyProof.Rows L2
def sclB (K : PySem.W.Frag) (C : Addr) : Bool := PySem.W.plainGet K C Str.empty && (PySem.W.isClsIn K C && (PySem.W.plainOver K C && He.eqO (PySem.W.findIn K (.ref C) "__setattr__") (some (some (.builtin "object.__setattr__")))))
def sisB (K : PySem.W.Frag) (C : Addr) : Bool := He.eqO (PySem.W.findIn K (.ref C) "__class__") (some (some (.builtin "object.__class__"))) && (He.eqO (PySem.W.specialIn K (.builtin "object.__class__") "__get__") (some (some (.builtin "getset_descriptor.__get__"))) &&
  (decide (PySem.W.takesIn K (.builtin "object.__class__") = some true) && decide (PySem.W.mroIn K C (.type "object") = some true)))
def slotB (K : PySem.W.Frag) (C : Addr) (f : Str) (i : Nat) : Bool := match PySem.W.findIn K (.ref C) f with
  | some (some (.ref p)) => He.eqO (PySem.W.specialIn K (.ref p) "__get__") (some (some (.builtin "member_descriptor.__get__"))) && (decide (PySem.W.takesIn K (.ref p) = some true) && (decide (PySem.W.typeIn K (.ref p) = some (.type "member_descriptor")) && (decide (PySem.W.slotIn K p C = some i) && decide (i < 1000))))
  | _ => false
def aliB (K : PySem.W.Frag) (x y : Str) : Bool := He.eqO (PySem.W.nsIn K mainGlobals x) (some (some (.ref (He.ga K y))))
end FL
namespace K16
open PySem PySem.Spec PyProof.Rows L2 FL
def top (i : Nat) : Stmt := PySem.Challenge.pw_mostcalls_k16_rows.main.body.getD i (.Pass ⟨0, 0, 0, 0⟩)
def CS : List Str := []
def SS : List Str := ["Rows"]
def TAB : List (Tp × Tp × Bool) := [(.b "NoneType", .b "bool", false), (.b "NoneType", .b "int", false), (.b "NoneType", .b "str", false), (.b "NoneType", .b "tuple", false), (.b "NoneType", .b "list", false), (.b "NoneType", .b "dict", false), (.b "NoneType", .c "Rows", false), (.b "bool", .b "bool", true), (.b "bool", .b "int", true), (.b "bool", .b "str", false), (.b "bool", .b "tuple", false), (.b "bool", .b "list", false), (.b "bool", .b "dict", false), (.b "bool", .c "Rows", false), (.b "int", .b "bool", false), (.b "int", .b "int", true), (.b "int", .b "str", false), (.b "int", .b "tuple", false), (.b "int", .b "list", false), (.b "int", .b "dict", false), (.b "int", .c "Rows", false), (.b "str", .b "bool", false), (.b "str", .b "int", false), (.b "str", .b "str", true), (.b "str", .b "tuple", false), (.b "str", .b "list", false), (.b "str", .b "dict", false), (.b "str", .c "Rows", false), (.b "tuple", .b "bool", false), (.b "tuple", .b "int", false), (.b "tuple", .b "str", false), (.b "tuple", .b "tuple", true), (.b "tuple", .b "list", false), (.b "tuple", .b "dict", false), (.b "tuple", .c "Rows", false), (.b "list", .b "bool", false), (.b "list", .b "int", false), (.b "list", .b "str", false), (.b "list", .b "tuple", false), (.b "list", .b "list", true), (.b "list", .b "dict", false), (.b "list", .c "Rows", false), (.b "dict", .b "bool", false), (.b "dict", .b "int", false), (.b "dict", .b "str", false), (.b "dict", .b "tuple", false), (.b "dict", .b "list", false), (.b "dict", .b "dict", true), (.b "dict", .c "Rows", false), (.c "Rows", .b "bool", false), (.c "Rows", .b "int", false), (.c "Rows", .b "str", false), (.c "Rows", .b "tuple", false), (.c "Rows", .b "list", false), (.c "Rows", .b "dict", false), (.c "Rows", .c "Rows", true)]
def NF : List Tp := [.b "NoneType", .b "bool", .b "int", .b "str", .b "tuple", .b "list", .c "Rows"]
def KNOWN : List Str := ["InvalidRows"]
abbrev s_Rows_eq : Stmt := inClass (top 11) 7
theorem sc_Rows_eq : FnScope ["self", "other", "same"] ["self", "other"] (defScope s_Rows_eq) := ⟨rfl, rfl, rfl, by decide +kernel, rfl, by decide +kernel, by decide +kernel⟩
abbrev s_Rows_lay : Stmt := inClass (top 11) 2
theorem sc_Rows_lay : FnScope ["self", "answers", "fails", "stops", "tick"] ["self", "answers", "fails", "stops"] (defScope s_Rows_lay) := ⟨rfl, rfl, rfl, by decide +kernel, rfl, by decide +kernel, by decide +kernel⟩
abbrev s_is_integer : Stmt := top 3
theorem sc_is_integer : FnScope ["value"] ["value"] (defScope s_is_integer) := ⟨rfl, rfl, rfl, by decide +kernel, rfl, by decide +kernel, by decide +kernel⟩
abbrev s_is_count : Stmt := top 4
theorem sc_is_count : FnScope ["value"] ["value"] (defScope s_is_count) := ⟨rfl, rfl, rfl, by decide +kernel, rfl, by decide +kernel, by decide +kernel⟩
abbrev s_is_dict_of_numbers : Stmt := top 10
theorem sc_is_dict_of_numbers : FnScope ["value", "tick", "number"] ["value"] (defScope s_is_dict_of_numbers) := ⟨rfl, rfl, rfl, by decide +kernel, rfl, by decide +kernel, by decide +kernel⟩
abbrev s_Rows_init : Stmt := inClass (top 11) 1
theorem sc_Rows_init : FnScope ["self", "answers", "fails", "stops", "value"] ["self", "answers", "fails", "stops"] (defScope s_Rows_init) := ⟨rfl, rfl, rfl, by decide +kernel, rfl, by decide +kernel, by decide +kernel⟩
abbrev s_Rows_answers : Stmt := inClass (top 11) 3
theorem sc_Rows_answers : FnScope ["self"] ["self"] (defScope s_Rows_answers) := ⟨rfl, rfl, rfl, by decide +kernel, rfl, by decide +kernel, by decide +kernel⟩
abbrev s_Rows_fails : Stmt := inClass (top 11) 4
theorem sc_Rows_fails : FnScope ["self"] ["self"] (defScope s_Rows_fails) := ⟨rfl, rfl, rfl, by decide +kernel, rfl, by decide +kernel, by decide +kernel⟩
abbrev s_greater : Stmt := top 6
theorem sc_greater : FnScope ["one", "other", "first", "second"] ["one", "other"] (defScope s_greater) := ⟨rfl, rfl, rfl, by decide +kernel, rfl, by decide +kernel, by decide +kernel⟩
abbrev s_greatest : Stmt := top 8
theorem sc_greatest : FnScope ["numbers", "found", "number"] ["numbers"] (defScope s_greatest) := ⟨rfl, rfl, rfl, by decide +kernel, rfl, by decide +kernel, by decide +kernel⟩
abbrev s_Rows_greatest : Stmt := inClass (top 11) 6
theorem sc_Rows_greatest : FnScope ["self"] ["self"] (defScope s_Rows_greatest) := ⟨rfl, rfl, rfl, by decide +kernel, rfl, by decide +kernel, by decide +kernel⟩
abbrev s_Rows_stops : Stmt := inClass (top 11) 5
theorem sc_Rows_stops : FnScope ["self"] ["self"] (defScope s_Rows_stops) := ⟨rfl, rfl, rfl, by decide +kernel, rfl, by decide +kernel, by decide +kernel⟩
abbrev s__law_draw : Stmt := top 14
theorem sc__law_draw : FnScope ["_law_pool_here", "_law_many", "_law_digit"] ["_law_pool_here", "_law_many"] (defScope s__law_draw) := ⟨rfl, rfl, rfl, by decide +kernel, rfl, by decide +kernel, by decide +kernel⟩
abbrev s__law_drawn : Stmt := top 16
theorem sc__law_drawn : FnScope ["_law_pool_here", "_law_turn"] ["_law_pool_here"] (defScope s__law_drawn) := ⟨rfl, rfl, rfl, by decide +kernel, rfl, by decide +kernel, by decide +kernel⟩
abbrev s__law_pool : Stmt := top 13
theorem sc__law_pool : FnScope ["_law_script", "_law_k", "_law_cell", "_law_seed"] ["_law_script", "_law_k"] (defScope s__law_pool) := ⟨rfl, rfl, rfl, by decide +kernel, rfl, by decide +kernel, by decide +kernel⟩
abbrev s__law_told : Stmt := top 15
theorem sc__law_told : FnScope ["_law_some", "e"] ["_law_some"] (defScope s__law_told) := ⟨rfl, rfl, rfl, by decide +kernel, rfl, by decide +kernel, by decide +kernel⟩
abbrev s_law : Stmt := top 17
theorem sc_law : FnScope ["_law_script", "_law_k", "_law_pool_here", "_law_some", "_law_others", "_law_turn", "_law_handed", "_law_one", "_law_rows", "_law_known", "_law_at", "_law_bent", "_law_bad", "_law_thing"] ["_law_script"] (defScope s_law) := ⟨rfl, rfl, rfl, by decide +kernel, rfl, by decide +kernel, by decide +kernel⟩
end K16
namespace KH16
open PySem PySem.Spec PyProof.Rows L2 FL K16
abbrev dd0 : He.DefD := ⟨("is_integer", none), "is_integer", "is_integer", defArgs s_is_integer, defBody s_is_integer, defScope s_is_integer, [], []⟩
abbrev dd1 : He.DefD := ⟨("is_count", none), "is_count", "is_count", defArgs s_is_count, defBody s_is_count, defScope s_is_count, [], []⟩
abbrev dd2 : He.DefD := ⟨("is_dict_of_numbers", none), "is_dict_of_numbers", "is_dict_of_numbers", defArgs s_is_dict_of_numbers, defBody s_is_dict_of_numbers, defScope s_is_dict_of_numbers, [], []⟩
abbrev dd3 : He.DefD := ⟨("greater", none), "greater", "greater", defArgs s_greater, defBody s_greater, defScope s_greater, [], []⟩
abbrev dd4 : He.DefD := ⟨("greatest", none), "greatest", "greatest", defArgs s_greatest, defBody s_greatest, defScope s_greatest, [], []⟩
abbrev dd5 : He.DefD := ⟨("_law_draw", none), "_law_draw", "_law_draw", defArgs s__law_draw, defBody s__law_draw, defScope s__law_draw, [], []⟩
abbrev dd6 : He.DefD := ⟨("_law_drawn", none), "_law_drawn", "_law_drawn", defArgs s__law_drawn, defBody s__law_drawn, defScope s__law_drawn, [], []⟩
abbrev dd7 : He.DefD := ⟨("_law_pool", none), "_law_pool", "_law_pool", defArgs s__law_pool, defBody s__law_pool, defScope s__law_pool, [], []⟩
abbrev dd8 : He.DefD := ⟨("_law_told", none), "_law_told", "_law_told", defArgs s__law_told, defBody s__law_told, defScope s__law_told, [], []⟩
abbrev dd9 : He.DefD := ⟨("law", none), "law", "law", defArgs s_law, defBody s_law, defScope s_law, [], []⟩
abbrev dd10 : He.DefD := ⟨("Rows", some "__eq__"), "__eq__", "Rows.__eq__", defArgs s_Rows_eq, defBody s_Rows_eq, defScope s_Rows_eq, [], []⟩
abbrev dd11 : He.DefD := ⟨("Rows", some "lay"), "lay", "Rows.lay", defArgs s_Rows_lay, defBody s_Rows_lay, defScope s_Rows_lay, [], []⟩
abbrev dd12 : He.DefD := ⟨("Rows", some "__init__"), "__init__", "Rows.__init__", defArgs s_Rows_init, defBody s_Rows_init, defScope s_Rows_init, [], []⟩
abbrev dd13 : He.DefD := ⟨("Rows", some "greatest"), "greatest", "Rows.greatest", defArgs s_Rows_greatest, defBody s_Rows_greatest, defScope s_Rows_greatest, [], []⟩
def fn : List He.DefD := [dd0, dd1, dd2, dd3, dd4, dd5, dd6, dd7, dd8, dd9, dd10, dd11, dd12, dd13]
def fa : List He.Fa := [.glo "is_integer", .glo "is_count", .glo "is_dict_of_numbers", .glo "greater", .glo "greatest", .glo "_law_draw", .glo "_law_drawn", .glo "_law_pool", .glo "_law_told", .glo "law", .glo "Rows", .free "dict", .free "zip", .free "isinstance", .free "len", .free "all", .free "any", .free "sum", .free "max", .free "min", .free "repr", .free "int", .free "bool", .free "str", .free "tuple", .free "list", .free "range", .free "enumerate", .free "sorted", .mkr "Rows", .meth "Rows" "__eq__", .meth "Rows" "lay", .meth "Rows" "greatest"]
abbrev pp0 : MCH.PD := ⟨"Rows", "answers", "Rows.answers", s_Rows_answers⟩
abbrev pp1 : MCH.PD := ⟨"Rows", "fails", "Rows.fails", s_Rows_fails⟩
abbrev pp2 : MCH.PD := ⟨"Rows", "stops", "Rows.stops", s_Rows_stops⟩
def pps : List MCH.PD := [pp0, pp1, pp2]
def bmF (s : String) : List Value := if s = "ValueError" then PySem.MEX.bmV else if s = "LookupError" then PySem.MEX.bmL else if s = "OverflowError" then PySem.MEX.bmO else PySem.MEX.bmR
abbrev ee0 : MCH.ED := ⟨"InvalidRows", ["value"], "ValueError", inClass (top 1) 0⟩
abbrev es : List MCH.ED := [ee0]
def ts : List He.Tab := []
def tfs : List He.Defn := []
abbrev gaK (K : PySem.W.Frag) : Ga := ⟨He.ga K, tabsOf K tfs⟩
def ex0 (K : PySem.W.Frag) : Bool := (sclB K (gaK K "Rows") && (sisB K (gaK K "Rows") && (slotB K (gaK K "Rows") "own_answers" 0 && (slotB K (gaK K "Rows") "own_fails" 1 && (slotB K (gaK K "Rows") "own_stops" 2 && (aliB K "greatest_rows" "greatest" && (eqcB K (gaK K) "Rows" NF && (kitB K (gaK K) CS TAB && (excB K (gaK K) KNOWN && distB K tfs)))))))))
abbrev R : PySem.W.OpenRow := PySem.W.OpenLaw.row PySem.Challenge.rw_mostcalls_k16_rows
abbrev hk : PySem.W.Hook := MCH.hookL MCH.asB R.prog bmF fa fn pps es ts tfs ex0
def ob (s : PySem.W.SharedT) : MCH.AlR := MCH.obsL MCH.asB R.prog bmF fa fn pps es ts tfs ex0 (HandSHeadRun.getT s)
theorem ob_eq (s : PySem.W.SharedT) : ob s = hk.obs s.abs := MCH.obsL_eq (HandSHeadRun.getT_eq s)
def names : List Str := (["InvalidRows", "is_integer", "is_count", "greater", "greatest", "greatest_rows", "is_dict_of_numbers", "Rows", "_law_pool", "_law_draw", "_law_told", "_law_drawn"] : List Str)
section
open PySem.W PySem.Calls HandSHeadRun
theorem runLF_false (w : World) : MCH.At R.prog 20000 (w.withFollow "special-get-raises" false) (fun s => (((looksF R.prog (boot_heap (w.withFollow "special-get-raises" false).params) s.abs, seenQ (PySem.W.view R.prog [17]) names (importedModules R.prog.main.body) (fun s => xlAt (PySem.W.view R.prog [17]) [] s && recOk R.toRowW.records s) s.abs)), (fa.all fun f => f.ok (MCH.frS_ MCH.asB s)))) ((true, openGood (PySem.W.view R.prog [17]) names), true) := by
  intro os
  kernel_rfl
theorem runLF_true (w : World) : MCH.At R.prog 20000 (w.withFollow "special-get-raises" true) (fun s => (((looksF R.prog (boot_heap (w.withFollow "special-get-raises" true).params) s.abs, seenQ (PySem.W.view R.prog [17]) names (importedModules R.prog.main.body) (fun s => xlAt (PySem.W.view R.prog [17]) [] s && recOk R.toRowW.records s) s.abs)), (fa.all fun f => f.ok (MCH.frS_ MCH.asB s)))) ((true, openGood (PySem.W.view R.prog [17]) names), true) := by
  intro os
  kernel_rfl
theorem runDN_false (w : World) : MCH.At R.prog 20000 (w.withFollow "special-get-raises" false) (fun s => ((fn.all fun d => d.ok (MCH.frS_ MCH.asB s)), (fn.map fun d => He.fnW (MCH.frS_ MCH.asB s) d.at_))) (true, (fn.map He.DefD.val)) := by
  intro os
  kernel_rfl
theorem runDN_true (w : World) : MCH.At R.prog 20000 (w.withFollow "special-get-raises" true) (fun s => ((fn.all fun d => d.ok (MCH.frS_ MCH.asB s)), (fn.map fun d => He.fnW (MCH.frS_ MCH.asB s) d.at_))) (true, (fn.map He.DefD.val)) := by
  intro os
  kernel_rfl
theorem runEPX_false (w : World) : MCH.At R.prog 20000 (w.withFollow "special-get-raises" false) (fun s => (((es.all fun x => MCH.eB R.prog bmF (MCH.frS_ MCH.asB s) x) && ex0 (MCH.frS_ MCH.asB s)), (((pps.all fun x => MCH.pB (MCH.frS_ MCH.asB s) x), (pps.map fun x => MCH.pFn (MCH.frS_ MCH.asB s) x))), (((es.map fun x => MCH.fnE (MCH.frS_ MCH.asB s) x), (ts.map fun t => He.dicW (MCH.frS_ MCH.asB s) (t.1 (MCH.frS_ MCH.asB s))), He.tabsB (HandSHeadRun.getT s) tfs (MCH.frS_ MCH.asB s))))) (true, (true, pps.map MCH.PD.val), (es.map MCH.ED.val, (ts.map fun t => some (He.keysIn (w.withFollow "special-get-raises" false).params t.2)), true)) := by
  intro os
  kernel_rfl
theorem runEPX_true (w : World) : MCH.At R.prog 20000 (w.withFollow "special-get-raises" true) (fun s => (((es.all fun x => MCH.eB R.prog bmF (MCH.frS_ MCH.asB s) x) && ex0 (MCH.frS_ MCH.asB s)), (((pps.all fun x => MCH.pB (MCH.frS_ MCH.asB s) x), (pps.map fun x => MCH.pFn (MCH.frS_ MCH.asB s) x))), (((es.map fun x => MCH.fnE (MCH.frS_ MCH.asB s) x), (ts.map fun t => He.dicW (MCH.frS_ MCH.asB s) (t.1 (MCH.frS_ MCH.asB s))), He.tabsB (HandSHeadRun.getT s) tfs (MCH.frS_ MCH.asB s))))) (true, (true, pps.map MCH.PD.val), (es.map MCH.ED.val, (ts.map fun t => some (He.keysIn (w.withFollow "special-get-raises" true).params t.2)), true)) := by
  intro os
  kernel_rfl
end
theorem run_false (w : World) : HandSHeadRun.RunEq R (PySem.W.view R.prog [17]) hk ob 20000 names (w.withFollow "special-get-raises" false) :=
  MCH.runL (runLF_false w).fst.fst (runLF_false w).fst.snd (runLF_false w).snd (runDN_false w).fst (runDN_false w).snd (runEPX_false w).fst (runEPX_false w).snd.fst.fst (runEPX_false w).snd.fst.snd (runEPX_false w).snd.snd.fst (runEPX_false w).snd.snd.snd.fst (runEPX_false w).snd.snd.snd.snd
theorem run_true (w : World) : HandSHeadRun.RunEq R (PySem.W.view R.prog [17]) hk ob 20000 names (w.withFollow "special-get-raises" true) :=
  MCH.runL (runLF_true w).fst.fst (runLF_true w).fst.snd (runLF_true w).snd (runDN_true w).fst (runDN_true w).snd (runEPX_true w).fst (runEPX_true w).snd.fst.fst (runEPX_true w).snd.fst.snd (runEPX_true w).snd.snd.fst (runEPX_true w).snd.snd.snd.fst (runEPX_true w).snd.snd.snd.snd
theorem run (w : World) : HandSHeadRun.RunEq R (PySem.W.view R.prog [17]) hk ob 20000 names w := by
  have e := World.withFollow_self w "special-get-raises"
  cases hb : w.params.followText "special-get-raises" <;> rw [hb] at e
  · rw [← e]
    exact run_false w
  · rw [← e]
    exact run_true w
end KH16
namespace L2
open PySem PySem.Spec PyProof.Rows
end L2
namespace L2
open PySem PySem.Spec PyProof.Rows LamX
end L2
namespace L2
open PySem PySem.Spec PyProof.Rows LamX
end L2
namespace L2
open PySem PySem.Spec PyProof.Rows
end L2
namespace L2
open PySem PySem.Spec PyProof.Rows
/-- what H₀ does not know may change -/
theorem Same.mut {H₀ H : Hp} {p : Addr} {o : HO} (s : Same H₀ H) (h : H₀ p = none) : Same H₀ (upd H p o) := fun b u e => by
  rw [upd_ne (ne_of_none e h)]
  exact s b u e
theorem Same.new' {H : Hp} {p : Addr} {o : HO} (h : H p = none) : Same H (upd H p o) := (Same.refl H).mut h
section
variable {X : Cx} {pos : Pos}
theorem PE.imp {e : Expr} {t t' : TE} (h : PE X e t) (f : ∀ σ H Q, t' σ H Q → t σ H Q) : PE X e t' := ⟨fun pins s σ H Q I q => h.run pins s σ H Q I (f σ H Q q)⟩
theorem PA.imp {es : List Expr} {t t' : TA} (h : PA X es t) (f : ∀ σ H Q, t' σ H Q → t σ H Q) : PA X es t' := ⟨fun p pins s σ H Q I q => h.run p pins s σ H Q I (f σ H Q q)⟩
end
end L2
namespace L2
open PySem PySem.Spec PyProof.Rows
theorem tuple_mul0 (l : Addr) (a : Value) (n : Nat) (dd : Option Addr) (sl : Array (Option Value)) (u : Tok) :
    Meets (Builtin.«tuple.__mul__» ⟨[.ref l, .int 0 u], []⟩) (fun _ R s => s.heap.get? l = some { cls := .type "tuple", dict := dd, data := .seq #[a] n, slots := sl } ∧
      R (.ok (.ret (Value.ref s.heap.objs.size))) { s with heap := s.heap.push { cls := Value.type "tuple", data := Data.seq #[] } }) :=
  .of_wp fun prog w A R s h => by
    obtain ⟨hp, g, d, tk, os⟩ := s
    obtain ⟨hl, h⟩ := h
    have f1 := AutoSeq1.idx_int
    wp_walk using wpAny_loadPart' hl
    exact ⟨_, rfl, h⟩
theorem tuple_mul1 (l : Addr) (a : Value) (n : Nat) (dd : Option Addr) (sl : Array (Option Value)) (u : Tok) :
    Meets (Builtin.«tuple.__mul__» ⟨[.ref l, .int 1 u], []⟩) (fun _ R s => s.heap.get? l = some { cls := .type "tuple", dict := dd, data := .seq #[a] n, slots := sl } ∧ R (.ok (.ret (Value.ref l))) s) :=
  .of_wp fun prog w A R s h => by
    obtain ⟨hp, g, d, tk, os⟩ := s
    obtain ⟨hl, h⟩ := h
    have f1 := AutoSeq1.idx_int
    wp_walk using wpAny_loadPart' hl
    exact ⟨_, rfl, h⟩
/-- (a,) * k -/
def rRep1 (K : PySem.W.Frag) : R2 := fun x y H Q => ∃ (l : Addr) (k : Nat) (a : V), x = .ref l ∧ y = .int k ∧ SqT K H l [a] ∧ k ≤ 1000 ∧ ∀ p H', Same H H' → SqT K H' p (List.replicate k a) → Q (.ref p) H'
theorem flat1 {α : Type} (a : α) : ∀ k : Nat, (List.replicate k [a]).flatten = List.replicate k a
  | 0 => rfl
  | k + 1 => by rw [List.replicate_succ, List.flatten_cons, flat1 a k, List.replicate_succ]; rfl
theorem op_rep1 {X : Cx} : OpR X (binaryOp .Mult) (rRep1 X.K) := by
  intro pins s σ H x y v u Q I rx ry h
  obtain ⟨l, k, a, rfl, rfl, hT, hk, q⟩ := h
  match k, hk, q with
  | 0, hk, q =>
    cases rx
    obtain ⟨t, rfl⟩ := ry
    obtain ⟨its, r, ⟨⟨cls, dd, data, sl⟩, ho, hc, n, hd⟩, hs⟩ := I.tuple hT
    simp only at hc hd
    subst hc hd
    obtain ⟨b, rfl, rb⟩ := vals1 r
    refine wpAny_binaryOp_repeat_ref (T := "tuple") (U := "int") (by decide) ⟨_, ho, rfl⟩ (fun s' => typeIs_int s' 0 t) noFill_tuple_mul F.fills_int_mul F.slot_int_rmul repeat_tuple F.slot_int_index.lookup
      (call_meets F.slot_int_rmul (typeIs_int s 0 t) F.entry_int_rmul (F.args_int_rmul_2 _ _) (int_rmul_tuple 0 t l #[b] n dd sl)
        ⟨ho, rfl, ⟨_, ho, rfl⟩, call_meets F.slot_tuple_mul ⟨_, ho, rfl⟩ F.entry_tuple_mul (F.args_tuple_mul_2 _ _) (tuple_mul0 l b n dd sl t) ⟨ho, ?_⟩⟩)
    refine ⟨.ref s.heap.objs.size, _, I.laid (t' := s.toks) (o := .tup []) (fun b ob q => Heap.get?_push_of_some _ q) (Nat.le_refl _) ?_, rfl, q _ _ (Same.new' (I.hok.fresh (Nat.le_refl _))) (SqT.of upd_same)⟩
    exact ⟨Nat.zero_le _, [], .nil, IsTup.new _ _⟩
  | 1, hk, q =>
    cases rx
    obtain ⟨t, rfl⟩ := ry
    obtain ⟨its, r, ⟨⟨cls, dd, data, sl⟩, ho, hc, n, hd⟩, hs⟩ := I.tuple hT
    simp only at hc hd
    subst hc hd
    obtain ⟨b, rfl, rb⟩ := vals1 r
    refine wpAny_binaryOp_repeat_ref (T := "tuple") (U := "int") (by decide) ⟨_, ho, rfl⟩ (fun s' => typeIs_int s' 1 t) noFill_tuple_mul F.fills_int_mul F.slot_int_rmul repeat_tuple F.slot_int_index.lookup
      (call_meets F.slot_int_rmul (typeIs_int s 1 t) F.entry_int_rmul (F.args_int_rmul_2 _ _) (int_rmul_tuple 1 t l #[b] n dd sl)
        ⟨ho, rfl, ⟨_, ho, rfl⟩, call_meets F.slot_tuple_mul ⟨_, ho, rfl⟩ F.entry_tuple_mul (F.args_tuple_mul_2 _ _) (tuple_mul1 l b n dd sl t) ⟨ho, ?_⟩⟩)
    exact ⟨.ref l, H, I, rfl, q l H (Same.refl H) hT⟩
  | k + 2, hk, q =>
    refine op_repT pins s σ H _ _ v u Q I rx ry ⟨l, _, [a], rfl, rfl, hT, by simp, by omega, by omega, by simp, fun p hp => ?_⟩
    refine q p _ (Same.new' hp) ?_
    have e : (List.replicate (((k + 2 : Nat) : Int)).toNat [a]).flatten = List.replicate (k + 2) a := by rw [Int.toNat_natCast, flat1]
    rw [← e]
    exact SqT.of upd_same
end L2
namespace L2
open PySem PySem.Spec PyProof.Rows
abbrev ClA : Type := Value × Nat × (Addr → Value → Option Addr → TS)
abbrev Ends.un (D : Ends) (i : Nat) : Ends := { nx := fun σ' H' => D.nx (σ'.set i none) H', rt := D.rt, bk := fun σ' H' => D.bk (σ'.set i none) H', ct := fun σ' H' => D.ct (σ'.set i none) H' }
def wManyA (K : PySem.W.Frag) (Wo : WX) (D : Ends) : List ClA → WX
  | [] => Wo
  | (c, i, ts) :: r => fun cls d σ H => ∃ b, PySem.W.exmOne K cls c = some b ∧ (b = true → ∀ a, H a = none → ts a cls d (D.un i) (σ.set i (some (.ref a))) H) ∧ (b = false → wManyA K Wo D r cls d σ H)
inductive HdsA (X : Cx) : List ExceptHandler → List ClA → Prop
  | nil : HdsA X [] []
  | cons {x n : Str} {i : Nat} {c : Value} {ts : Addr → Value → Option Addr → TS} {b₀ : Stmt} {su : List Stmt} {np po : Pos} {hs : List ExceptHandler} {l : List ClA} (hc : Names X x c) (hi : X.N[i]? = some n) (hn : X.env.kindOf n = some .local)
      (hsu : ∀ (a : Addr) (oe : Obj) (cls : Value) (d : Option Addr) (pn : List (Addr × Obj)), Zc cls d oe → (∃ vs, oe.data = .fields vs) → PSs (X.suite a ((a, oe) :: pn)) (b₀ :: su) (ts a cls d)) (r : HdsA X hs l) :
      HdsA X (.ExceptHandler (some (.Name x np)) (some n) (b₀ :: su) po :: hs) ((c, i, ts) :: l)
section
variable {X : Cx} {body : List Stmt} {k₀ : ExceptHandler} {ks : List ExceptHandler} {l : List ClA} {pos : Pos} {tb : WX → TS} {Wo : WX}
theorem ps_try_manyA (e1 : X.stack = X.env :: X.outer) (e2 : X.env.frame = some X.env.locals) (nd : X.N.Nodup) (tk : Takes X Wo)
    (hb : ∀ (W : WX) (pn : List (Addr × Obj)) (xe : Value → Shared → Prop), Takes (X.tr pn xe) W → PassesOwn (model X.prog X.w) X.A X.env xe → PSs (X.tr pn xe) body (tb W))
    (hh : HdsA X (k₀ :: ks) l) : PS X (.Try body (k₀ :: ks) [] [] pos) (fun D σ H => tb (wManyA X.K Wo D l) D σ H) := by
  refine ⟨fun pins s σ H D I hw => ?_⟩
  have ok := I.ok
  have efr : X.A.frames = some (X.env :: X.outer) := by rw [ok.frames, e1]
  refine wpAny_Try_except (wpAny_mono ((hb (wManyA X.K Wo D l) (X.pn ++ pins) _ (fun u s1 xx => ?cat) PassesOwn.looking).run [] s σ H D (I.toTry _) hw) (fun fl s1 sp => ?thru) (fun e s1 he => he))
  case thru =>
    cases fl with
    | next => exact let ⟨σ', H', J', q⟩ := sp; wpAny_execs_nil ⟨σ', H', J'.ofTry ok, q⟩
    | brk => exact let ⟨σ', H', J', q⟩ := sp; ⟨σ', H', J'.ofTry ok, q⟩
    | cont => exact let ⟨σ', H', J', q⟩ := sp; ⟨σ', H', J'.ofTry ok, q⟩
    | ret u => exact let ⟨v, σ', H', J', r, q⟩ := sp; ⟨v, σ', H', J'.ofTry ok, r, q⟩
  case cat =>
    obtain ⟨a, B, sI, pz, σ', H', cls, d, rfl, J0, nb, up, sky, na, os, ag, ww⟩ := xx
    have J : Inv X pins σ' H' sI := J0.ofTry ok
    rw [e1] at sky
    refine Sky.land Zc.steady efr e2 sky fun h3 fl3 up3 => ?_
    have J3 : Inv X pins σ' H' ⟨h3, s1.gens, s1.drawn, s1.toks, s1.os⟩ := J.landed nb fl3.1 (up.trans up3) os ag
    obtain ⟨o3, vs3, g3, z3, d3⟩ := fl3.there
    have out : a ∉ frs (X.env :: X.outer) := fun hm => by
      obtain ⟨_, o', e', nf⟩ := fl3.2.2.1.mem hm
      rw [g3] at e'
      cases e'
      exact nf _ d3
    have nL : a ≠ X.env.locals := fun z => out (List.mem_filterMap.mpr ⟨X.env, List.mem_cons_self, by rw [e2, z]⟩)
    have nF : a ∉ X.fs := fun hm => by
      obtain ⟨e, he, q⟩ := List.mem_filterMap.mp hm
      exact out (List.mem_filterMap.mpr ⟨e, List.mem_cons_of_mem _ he, q⟩)
    have S3 := J3.suite g3 d3 na nL nF
    have go : ∀ {hs : List ExceptHandler} {m : List ClA}, HdsA X hs m → wManyA X.K Wo D m cls d σ' H' → wpAny (model X.prog X.w) X.A (handleBy (.ref a) X.env hs) (SP X pins D) X.xe { s1 with heap := h3 } := by
      intro hs m hk
      induction hk with
      | nil =>
        intro wq
        refine wpAny_handleBy_nil ?_
        obtain ⟨_, _, _, oe, vs, T, oT, _, ge, _, gd, gt, _⟩ := id fl3
        have last : wpAny (model X.prog X.w) X.A (setFlight (.ref a) X.env.frame) (fun _ s4 => wpAny (model X.prog X.w) X.A (throw (.ref a) : Sem Flow) (SP X pins D) X.xe s4) X.xe ⟨h3, s1.gens, s1.drawn, s1.toks, s1.os⟩ := by
          rw [e2]
          exact HandSPX.setFlight_upZ fl3 fun h4 hh4 up4 => wpAny_throw (tk _ _ ⟨a, B, sI, pins, σ', H', cls, d, rfl, J, nb, (up.trans up3).trans up4, .inr (.inr (by rw [e1]; exact hh4)), na, os, ag, wq⟩)
        unfold PySem.passOn
        refine wpAny_bind (wpAny_field ge gd gt ?_)
        rw [if_neg (by simp : ¬ ((Value.ref T == Value.none) = true))]
        first | exact wpAny_bind (wpAny_pure (wpAny_bind last)) | exact wpAny_bind last
      | @cons x n i c ts b₀ su np po hs2 l2 hc hi hn hsu r ih =>
        rintro ⟨b, eb, yes, no⟩
        refine wpAny_handleBy_cons (codeAny_handlers_test ?_) (fun q => nomatch q)
        have L1 : PySem.W.Looks (model X.prog X.w) h3 (typeOf (.ref a)) cls := fun A Q E s k q => wpAny_typeOf_ref (k _ _ g3) (by rw [z3.1]; exact q)
        have L2' := PySem.W.exm_one (M := model X.prog X.w) J3.kIn L1 eb
        have look : ∀ {Q E : Value → Shared → Prop}, Q c ⟨h3, s1.gens, s1.drawn, s1.toks, s1.os⟩ → wpAny (model X.prog X.w) (X.A.mark (some (.ref a))) (eval (.Name x np) X.env) Q E ⟨h3, s1.gens, s1.drawn, s1.toks, s1.os⟩ := fun {Q E} q => by
          obtain ⟨hg, hdb, hm | ⟨hm, hv, hnn⟩⟩ := hc
          · exact ld_glob (X := X.suite a ((a, o3) :: (X.pn ++ pins))) S3 hg hm q hdb
          · exact ld_blt (X := X.suite a ((a, o3) :: (X.pn ++ pins))) S3 hg hm hv q hnn hdb
        refine look (L2'.here ?_)
        cases b with
        | false => exact ih (no rfl)
        | true =>
          refine codeAny_handlers_suite_as (HandSPX.lands_againZ fl3 fun h4 fl4 up4 => ?_)
          have J4 : Inv X pins σ' H' ⟨h4, s1.gens, s1.drawn, s1.toks, s1.os⟩ := J.landed nb fl4.1 ((up.trans up3).trans up4) os ag
          obtain ⟨o4, vs4, g4, z4, d4⟩ := fl4.there
          have S4 := J4.suite g4 d4 na nL nF
          refine store_ok (X := X.suite a ((a, o4) :: (X.pn ++ pins))) (v := .ref a) S4 nd hi (.inl hn) rfl (fun s5 S5 => ?_) (.inr hn)
          refine wpAny_mono ((hsu a o4 cls d (X.pn ++ pins) z4 ⟨_, d4⟩).run [] s5 _ H' _ S5 (yes rfl a na)) (fun fl s6 sp => ?_) (fun _ _ z => z.elim)
          have fin : ∀ {σ6 : St} {H6 : Hp} {Q : Shared → Prop}, Inv (X.suite a ((a, o4) :: (X.pn ++ pins))) [] σ6 H6 s6 → (∀ s7, Inv X pins (σ6.set i none) H6 s7 → Q s7) →
              wpAny (model X.prog X.w) X.A (do bindName X.env n .none; unbindBehindTheSuite X.env n po) (fun _ s7 => Q s7) X.xe s6 := fun S6 hq => gone_ok (S6.unsuite ok) nd hi hn hq
          cases fl with
          | next => exact let ⟨_, _, S6, q6⟩ := sp; fin S6 fun s7 J7 => ⟨_, _, J7, q6⟩
          | brk => exact let ⟨_, _, S6, q6⟩ := sp; fin S6 fun s7 J7 => ⟨_, _, J7, q6⟩
          | cont => exact let ⟨_, _, S6, q6⟩ := sp; fin S6 fun s7 J7 => ⟨_, _, J7, q6⟩
          | ret u => exact let ⟨_, _, _, S6, r6, q6⟩ := sp; fin S6 fun s7 J7 => ⟨_, _, _, J7, r6, q6⟩
    exact go hh ww
end
end L2
namespace PySem
namespace MCX
open PySem.W PySem.Calls PyProof.Rows PySem.HandSPX
end MCX
end PySem
namespace L2
open PySem PySem.Spec PyProof.Rows
section
variable {X : Cx} {nm f : Str} {C fI : Addr}
theorem _root_.PySem.MCX.XTxt.xf {prog : Program} {K : PySem.W.Frag} {mg : Str → Option Value} (T : PySem.MCX.XTxt prog K mg nm f C fI) : XfC K C := ⟨T.ga, T.gg, T.exC, T.hdC⟩
end
end L2
namespace L2
open PySem PySem.Spec PyProof.Rows
end L2
namespace L2
open PySem PySem.Spec PyProof.Rows
/-- v is an error of the class at C with the fields fs -/
def IsErr (H : Hp) (v : V) (C : Addr) (fs : List (Str × V)) : Prop := ∃ e, v = .ref e ∧ ((fs = [] ∧ H e = some (exo e C none)) ∨ ∃ dx, H e = some (exo e C (some dx)) ∧ H dx = some (exd dx fs))
theorem IsErr.up {H H' : Hp} {v : V} {C : Addr} {fs : List (Str × V)} (s : Same H H') (h : IsErr H v C fs) : IsErr H' v C fs := by
  obtain ⟨e, ev, h⟩ := h
  refine ⟨e, ev, ?_⟩
  rcases h with ⟨h1, h2⟩ | ⟨dx, h1, h2⟩
  · exact .inl ⟨h1, s _ _ h2⟩
  · exact .inr ⟨dx, s _ _ h1, s _ _ h2⟩
/-- the values of the fields -/
inductive RelF : List (Str × V) → List (Str × Value) → Prop where
  | nil : RelF [] []
  | cons {f : Str} {v : V} {u : Value} {fs : List (Str × V)} {us : List (Str × Value)} : RelV v u → RelF fs us → RelF ((f, v) :: fs) ((f, u) :: us)
theorem RelF.look {fs : List (Str × V)} {us : List (Str × Value)} (r : RelF fs us) (y : Str) : RelO (fs.lookup y) (us.lookup y) := by
  induction r with
  | nil => trivial
  | @cons f v u fs us rv r ih =>
    by_cases h : y = f
    · subst h
      simpa [List.lookup] using (show RelO (some v) (some u) from rv)
    · have q : (y == f) = false := by simpa using h
      simpa [List.lookup, q] using ih
end L2
namespace L2
open PySem PySem.Spec PyProof.Rows
structure ETx (prog : Program) (K : PySem.W.Frag) (mg : Str → Option Value) (nm : Str) (C fI : Addr) (B newId initId : String) (bm : List Value) : Prop where
  c : PySem.MEX.ECls prog K mg nm C fI B newId initId bm
  tyC : PySem.W.typeIn K (.ref C) = some (.type "type")
  te : PySem.W.exmOne K (.ref C) (.ref C) = some true
theorem ETx.xf {prog : Program} {K : PySem.W.Frag} {mg : Str → Option Value} {nm : Str} {C fI : Addr} {B newId initId : String} {bm : List Value} (T : ETx prog K mg nm C fI B newId initId bm) : XfC K C := ⟨T.c.ga, T.c.gg, T.c.exC, T.c.hdC⟩
section
variable {X : Cx} {nm : Str} {C fI : Addr} {B newId initId : String} {bm : List Value}
/-- nm(e, ..) to be raised -/
def tMkR (C : Addr) (n : Nat) (gv : List V → List (Str × V)) (ta : TA) : St → Hp → XK → Prop := fun σ H Q => ta σ H fun vs H1 => vs.length = n ∧ ∀ d, H1 d = none → Q (.ref C) (some d) (upd H1 d (.xd (gv vs)))
theorem pmk_e {a : Expr} {as : List Expr} {ta : TA} {p pos : Pos} {n : Nat} {gv : List V → List (Str × V)} (T : ETx X.prog X.K X.mg nm C fI B newId initId bm)
    (M : ∀ (s : Shared) (us : List Value) (vs : List V) (R : Result → Shared → Prop), X.K.In s.heap → s.heap.NoLimit → s.heap.Ns mainGlobals X.mg → (∃ mb, s.heap.Ns builtinsNs mb ∧ ∀ x : Str, x ≠ "__name__" → mb x = bootBuiltins x) → Vals vs us → vs.length = n →
      ∃ fu, fu ≠ [] ∧ RelF (gv vs) fu ∧ ((∀ h' tk e d, PySem.MEX.MadeN fu s.heap h' e C d → R (.ok (.ret (.ref e))) { s with heap := h', toks := tk }) → codeAny (model X.prog X.w) X.A (.call (.ref C) ⟨us, []⟩) R s))
    (ha : PA X (a :: as) ta) (hg : Gl X nm := by rfl) (hd : (nm == ("__debug__" : Str)) = false := by decide)
    (he : starEach (a :: as) X.env = (false, eval a X.env) :: starEach as X.env := by rfl) (hpl : (backTo pos (starEach as X.env)).any (·.1) = false := by rfl) :
    PMk X (.Call (.Name nm p) (a :: as) [] pos) (tMkR C n gv ta) := by
  intro pins s σ H Q I h
  refine wpAny_Call_Name_kw (ld_glob I hg T.c.gC ?_ hd)
  refine PySem.W.callWith_K (h₀ := X.base) I.ok.mod.kin T.c.kC (thn (ha.run pos pins s σ H _ I h) fun us s1 hh => ?_) he hpl
  obtain ⟨vs, H1, I1, r1, hn, q1⟩ := hh
  refine ⟨I1.kIn, ?_⟩
  show wpAny _ _ (call (.ref C) us) _ _ _
  have hlim := I1.nolimit
  have hG : s1.heap.Ns mainGlobals X.mg := I1.ok.mod.glob.keeps I1.bk
  have hB : ∃ mb, s1.heap.Ns builtinsNs mb ∧ ∀ x : Str, x ≠ "__name__" → mb x = bootBuiltins x := let ⟨mb, b1, b2⟩ := I1.ok.mod.blt; ⟨mb, b1.keeps I1.bk, b2⟩
  obtain ⟨hp, g, dr, tk, os⟩ := s1
  refine wpAny_call ?_
  obtain ⟨fu, hfu, rf, hc⟩ := M ⟨hp, g, dr, tk, os⟩ us vs (fun r s' => match r with
    | .ok (.ret v) => MkP X pins σ Q v s'
    | .ok _ => False
    | .error e => X.xe e s') I1.kIn hlim hG hB r1 hn
  refine codeAny_mono (hc fun h' tk' e d Mm => ?_) fun r s' z => ?_
  · show MkP X pins σ Q (.ref e) ⟨h', g, dr, tk', os⟩
    obtain ⟨t1, hoe⟩ := Mm.obj
    have hd := Mm.dict
    cases d with
    | none => exact absurd hd hfu
    | some d =>
      obtain ⟨dbig, dne, hns⟩ := hd
      obtain ⟨G', g1, g2⟩ := restrict h' fun b => decide (b ≠ e)
      have gk : ∀ b, b ≠ e → G'.get? b = h'.get? b := fun b hb => g1 b (decide_eq_true hb)
      have ge : G'.get? e = none := g2 e (by simp)
      have old : ∀ b o, hp.get? b = some o → G'.get? b = some o := fun b o q => (gk b (Nat.ne_of_lt (Nat.lt_of_lt_of_le (Heap.lt_size q) Mm.new))).trans (Mm.keep b o q)
      have ob : ObjOk X.prog X.w (upd H1 d (.xd (gv vs))) G' d (.xd (gv vs)) := ⟨_, hns.at (fun o q => (gk d dne).trans q), fun g => rf.look g⟩
      have J : Inv X pins σ (upd H1 d (.xd (gv vs))) ⟨G', g, dr, tk', os⟩ := I1.laid (t' := tk') old dbig ob
      refine ⟨e, _, _, ⟨G', g, dr, tk', os⟩, _, .ref C, some d, rfl, J, fun b o q => ?_, ge, hoe, ⟨rfl, rfl⟩, rfl, rfl, ?_, rfl, I1.bare, raises_own T.c.exC T.tyC, q1 d (I1.hok.fresh dbig)⟩
      · by_cases hb : b = e
        · have q' : G'.get? b = some o := q
          rw [hb, ge] at q'; cases q'
        · exact (gk b hb).symm.trans q
      · rw [upd_ne (Ne.symm dne)]
        exact I1.hok.fresh Mm.new
  · rcases r with e | (v | _ | _ | _) <;> exact z
theorem pmk_e1 {a : Expr} {ta : TA} {p pos : Pos} {k : Nat} {f1 : Str} (T : ETx X.prog X.K X.mg nm C fI B newId initId bm) (G : PySem.MEX.EFn1 X.prog X.K C fI f1) (hr : Room k X.A) (ha : PA X [a] ta) (hg : Gl X nm := by rfl) (hd : (nm == ("__debug__" : Str)) = false := by decide)
    (he : starEach [a] X.env = (false, eval a X.env) :: starEach [] X.env := by rfl) (hpl : (backTo pos (starEach [] X.env)).any (·.1) = false := by rfl) :
    PMk X (.Call (.Name nm p) [a] [] pos) (tMkR C 1 (fun vs => [(f1, vs.getD 0 .non)]) ta) := by
  refine pmk_e T (fun s us vs R hK hl hG hB r hn => ?_) ha hg hd he hpl
  match vs, hn with
  | [v], _ =>
    cases r with
    | cons rv rn =>
      cases rn
      rename_i u
      exact ⟨[(f1, u)], by simp, .cons rv .nil, fun hq => PySem.MEX.made1 T.c G (v1 := u) (fun x => fun qual p0 p1 body doc pm an cd ct cc => G.fok.bp qual p0 p1 body doc pm an cd ct cc x u) (by show 1 ≤ sizeLine; decide) hK hl (by have := hr.dp; omega) hG hB hq⟩
/-- raise nm(e, ..) -/
def tRaiseE (C : Addr) (n : Nat) (gv : List V → List (Str × V)) (W : WX) (ta : TA) : TS := fun _ σ H => tMkR C n gv ta σ H fun cls d H' => W cls d σ H'
theorem ps_raiseE1 {a : Expr} {ta : TA} {W : WX} {p pos pos2 : Pos} {k : Nat} {f1 : Str} (hc : X.calm = true) (T : ETx X.prog X.K X.mg nm C fI B newId initId bm) (G : PySem.MEX.EFn1 X.prog X.K C fI f1) (hr : Room k X.A) (tk : Takes X W) (ha : PA X [a] ta) (hg : Gl X nm := by rfl) (hd : (nm == ("__debug__" : Str)) = false := by decide)
    (he : starEach [a] X.env = (false, eval a X.env) :: starEach [] X.env := by rfl) (hpl : (backTo pos (starEach [] X.env)).any (·.1) = false := by rfl) :
    PS X (.Raise (some (.Call (.Name nm p) [a] [] pos)) none pos2) (tRaiseE C 1 (fun vs => [(f1, vs.getD 0 .non)]) W ta) := ps_raise hc tk (pmk_e1 T G hr ha hg hd he hpl)
end
end L2
namespace L2
open PySem PySem.Spec PyProof.Rows
end L2
namespace FL
open PySem PySem.Spec PyProof.Rows L2
/-- values: tuples by content, what changes by its number in the logical heap -/
inductive PV where
  | non | bl (b : Bool) | int (i : Int) | str (x : Str) | tup (xs : List PV) | obj (n : Nat) | rol (xs : List PV) | glo (x : Str) | ty (n : String)
/-- objects -/
inductive LO where
  | lst (xs : List PV) | dct (kvs : List (Key × PV)) | fdct (kvs : List (Key × PV)) | ins (C : Str) (fs : List (Str × PV))
  /-- an instance with slots that has been stored into -/
  | sli (C : Str) (vs : List (Option PV))
  /-- a dict of one pair whose key is of any kind; never written -/
  | odd (k v : PV)
abbrev Sl := List (Option PV)
abbrev LH := List LO
/-- what a run gives -/
inductive R (α : Type) where
  | ok (a : α) (L : LH) | ex (c : Str) (fs : List (Str × PV)) (L : LH) | no
def R.bind {α β : Type} : R α → (α → LH → R β) → R β
  | .ok a L, k => k a L
  | .ex c fs L, _ => .ex c fs L
  | .no, _ => .no
inductive RS where
  | nx (τ : Sl) (L : LH) | rt (x : PV) (L : LH) | bk (τ : Sl) (L : LH) | ct (τ : Sl) (L : LH) | ex (c : Str) (fs : List (Str × PV)) (τ : Sl) (L : LH) | no
abbrev Fn := List PV → LH → R PV
section
variable (K : PySem.W.Frag) (ga : Ga)
/-- a list that is only read -/
def RoL (H : Hp) (a : Addr) (ys : List V) : Prop := (∃ o, H a = some (.frz o (.lst ys))) ∨
  ∃ (o : Obj) (its : Array Value) (n : Nat), K.lookup a = some o ∧ o.cls = .type "list" ∧ o.dict = none ∧ o.data = .seq its n ∧ its.size ≤ sizeLine ∧ Vals ys its.toList
mutual
def VR (ι : List Addr) (H : Hp) : PV → V → Prop
  | .non, v => v = .non
  | .bl b, v => v = .bl b
  | .int i, v => v = .int i
  | .str x, v => v = .str x
  | .tup xs, v => ∃ a ys, v = .ref a ∧ SqT K H a ys ∧ VRs ι H xs ys
  | .obj n, v => ∃ a, ι[n]? = some a ∧ v = .ref a
  | .rol xs, v => ∃ a ys, v = .ref a ∧ RoL K H a ys ∧ VRs ι H xs ys
  | .glo x, v => v = .ref (ga x)
  | .ty n, v => v = .ty n
def VRs (ι : List Addr) (H : Hp) : List PV → List V → Prop
  | [], ys => ys = []
  | x :: xs, ys => ∃ y r, ys = y :: r ∧ VR ι H x y ∧ VRs ι H xs r
end
def DRs (ι : List Addr) (H : Hp) : List (Key × PV) → List (Key × V) → Prop
  | [], l => l = []
  | p :: ps, l => ∃ v r, l = (p.1, v) :: r ∧ VR K ga ι H p.2 v ∧ DRs ι H ps r
def FRs (ι : List Addr) (H : Hp) : List (Str × PV) → List (Str × V) → Prop
  | [], l => l = []
  | p :: ps, l => ∃ v r, l = (p.1, v) :: r ∧ VR K ga ι H p.2 v ∧ FRs ι H ps r
/-- the object of a dict of one pair -/
def OddOb (a : Addr) (ob : Obj) (k v : V) : Prop := (a == sysModules) = false ∧ ob.ExactDict ∧ ∃ (hh : Int) (ku vu : Value) (ep : Nat), ob.data = .dict #[⟨hh, ku, vu⟩] ep ∧ RelV k ku ∧ RelV v vu
/-- the slots, as far as they are known -/
def ORs (ι : List Addr) (H : Hp) (vs : List (Option PV)) (ws : List (Option V)) : Prop := vs.length = ws.length ∧ ∀ (i : Nat) (x : PV), vs[i]? = some (some x) → ∃ v, ws[i]? = some (some v) ∧ VR K ga ι H x v
def OA (ι : List Addr) (H : Hp) (a : Addr) : LO → HO → Prop
  | .lst xs, o => ∃ ys, o = .lst ys ∧ VRs K ga ι H xs ys
  | .dct kvs, o => ∃ l, o = .dK l ∧ DRs K ga ι H kvs l
  | .fdct kvs, o => ∃ od l, o = .frz od (.dK l) ∧ DRs K ga ι H kvs l
  | .ins C fs, o => ∃ dx l, o = .ins (ga C) dx l ∧ FRs K ga ι H fs l
  | .sli C vs, o => ∃ dx ws, o = SlX.SlO a (ga C) dx ws ∧ H dx = some (.xd []) ∧ ORs K ga ι H vs ws
  | .odd k v, o => ∃ ob kv vv, o = .frz ob (.own a) ∧ OddOb a ob kv vv ∧ VRs K ga ι H [k, v] [kv, vv]
structure Wd (ι : List Addr) (L : LH) (H : Hp) : Prop where
  len : ι.length = L.length
  nd : ι.Nodup
  at_ : ∀ (n : Nat) (a : Addr) (o : LO), ι[n]? = some a → L[n]? = some o → ∃ ho, H a = some ho ∧ OA K ga ι H a o ho
  tb : LamX.Tabs ga.T H
/-- nothing of ours stands at a -/
def Fre (H : Hp) (a : Addr) : Prop := ∀ o, H a = some o → ∃ ps, o = .tbl ps
/-- what grew -/
structure Ext (ι : List Addr) (H : Hp) (ι' : List Addr) (H' : Hp) : Prop where
  gr : ∃ δ, ι' = ι ++ δ ∧ ∀ a ∈ δ, a ∈ ι ∨ Fre H a
  st : ∀ a o, a ∉ ι → H a = some o → (∀ ps, o ≠ .tbl ps) → (∀ y, o ≠ .own y) → H' a = some o
  tp : ∀ a ys, SqT K H a ys → SqT K H' a ys
  ro : ∀ a ys, RoL K H a ys → RoL K H' a ys
  fz : ∀ a o u, H a = some (.frz o u) → H' a = some (.frz o u)
  ow : ∀ a y, a ∉ ι → H a = some (.own y) → H' a = some (.own y) ∨ H' a = some (.xd [])
  xd : ∀ a l, H a = some (.xd l) → H' a = some (.xd l)
/-- what a value leans on -/
structure Up (ι : List Addr) (H : Hp) (ι' : List Addr) (H' : Hp) : Prop where
  gr : ∃ δ, ι' = ι ++ δ
  tp : ∀ a ys, SqT K H a ys → SqT K H' a ys
  ro : ∀ a ys, RoL K H a ys → RoL K H' a ys
  xd : ∀ a l, H a = some (.xd l) → H' a = some (.xd l)
end
/-- the own dict of an exception, if it has one -/
def XdAt (H : Hp) (d : Option Addr) (l : List (Str × V)) : Prop := match d with
  | some d => H d = some (.xd l)
  | none => l = []
/-- an exception that a suite handles: its slot, its address, its own dict, its fields -/
structure Gh where
  i : Nat
  a : Addr
  d : Addr
  fs : List (Str × PV)
  q : Option (Str × List Addr × Hp)
/-- what stands around: where the module's names stand, what is handled -/
structure Zs where
  f : Ga
  gh : List Gh
def GhOk (K : PySem.W.Frag) (ga : Ga) (ι : List Addr) (H : Hp) (σ : L2.St) (g : Gh) : Prop := σ[g.i]? = some (some (.ref g.a)) ∧ g.d ∉ ι ∧ (match g.q with
  | none => ∃ l, H g.d = some (.xd l) ∧ FRs K ga ι H g.fs l
  | some q => H g.d = some (LamX.CodeO g.d q.1) ∧ Up K q.2.1 q.2.2 ι H)
structure SR (K : PySem.W.Frag) (Z : Zs) (ι : List Addr) (H : Hp) (τ : Sl) (σ : L2.St) : Prop where
  len : τ.length = σ.length
  at_ : ∀ (i : Nat) (x : PV), τ[i]? = some (some x) → ∃ v, σ[i]? = some (some v) ∧ VR K Z.f ι H x v
  gh : ∀ g ∈ Z.gh, GhOk K Z.f ι H σ g
/-- no handled exception stands in slot i -/
def Zs.ok (Z : Zs) (i : Nat) : Bool := Z.gh.all fun g => !(g.i == i)
section
variable {K : PySem.W.Frag} {ga : Ga} {a : Addr} {ι ι' ι1 ι2 : List Addr} {H H' H1 H2 : Hp} {L L' : LH}
theorem Ext.refl : Ext K ι H ι H := ⟨⟨[], by simp, fun _ h => nomatch h⟩, fun _ _ _ h _ _ => h, fun _ _ h => h, fun _ _ h => h, fun _ _ _ h => h, fun _ _ _ h => .inl h, fun _ _ h => h⟩
theorem Fre.of (h : H a = none) : Fre H a := fun o e => by rw [h] at e; cases e
theorem Ext.fre (e : Ext K ι H ι' H') {a : Addr} (hi : a ∉ ι) (h : Fre H' a) : Fre H a := fun o q => by
  cases o with
  | tbl ps => exact ⟨ps, rfl⟩
  | own y =>
    rcases e.ow a y hi q with z | z <;> (obtain ⟨ps, z⟩ := h _ z; cases z)
  | _ => obtain ⟨ps, z⟩ := h _ (e.st a _ hi q (fun _ z => nomatch z) (fun _ z => nomatch z)); cases z
theorem Ext.trans (a : Ext K ι H ι1 H1) (b : Ext K ι1 H1 ι2 H2) : Ext K ι H ι2 H2 := by
  have fr : ∀ x, x ∉ ι → Fre H1 x → Fre H x := fun x hi h => Ext.fre a hi h
  obtain ⟨⟨δ, e1, h1⟩, s1, t1, r1, f1, o1, x1⟩ := a
  obtain ⟨⟨δ', e2, h2⟩, s2, t2, r2, f2, o2, x2⟩ := b
  subst e1 e2
  have nm : ∀ x o, x ∉ ι → H x = some o → (∀ ps, o ≠ .tbl ps) → x ∉ ι ++ δ := fun x o hx h nt hm => by
    rcases List.mem_append.mp hm with hm | hm
    · exact hx hm
    · rcases h1 x hm with z | z
      · exact hx z
      · obtain ⟨ps, y⟩ := z o h
        exact nt ps y
  refine ⟨⟨δ ++ δ', by simp, fun x hx => ?_⟩, fun x o hx h nt no => s2 x o (nm x o hx h nt) (s1 x o hx h nt no) nt no, fun x ys h => t2 _ _ (t1 _ _ h), fun x ys h => r2 _ _ (r1 _ _ h), fun x o u h => f2 _ _ _ (f1 _ _ _ h), fun x y hx h => ?_, fun x l h => x2 _ _ (x1 _ _ h)⟩
  · rcases List.mem_append.mp hx with hx | hx
    · exact h1 x hx
    · rcases h2 x hx with z | z
      · rcases List.mem_append.mp z with z | z
        · exact .inl z
        · exact h1 x z
      · by_cases hi : x ∈ ι
        · exact .inl hi
        · exact .inr (fr x hi z)
  · rcases o1 x y hx h with z | z
    · exact o2 x y (nm x _ hx h fun _ z => nomatch z) z
    · exact .inr (x2 _ _ z)
theorem Up.refl : Up K ι H ι H := ⟨⟨[], by simp⟩, fun _ _ h => h, fun _ _ h => h, fun _ _ h => h⟩
theorem Up.trans (a : Up K ι H ι1 H1) (b : Up K ι1 H1 ι2 H2) : Up K ι H ι2 H2 := by
  obtain ⟨⟨δ, rfl⟩, t, r, x⟩ := a
  obtain ⟨⟨δ', rfl⟩, t', r', x'⟩ := b
  exact ⟨⟨δ ++ δ', by simp⟩, fun _ _ h => t' _ _ (t _ _ h), fun _ _ h => r' _ _ (r _ _ h), fun _ _ h => x' _ _ (x _ _ h)⟩
theorem Ext.u (e : Ext K ι H ι' H') : Up K ι H ι' H' := ⟨let ⟨δ, h, _⟩ := e.gr; ⟨δ, h⟩, e.tp, e.ro, e.xd⟩
mutual
theorem VR.upU (e : Up K ι H ι' H') : ∀ {x : PV} {v : V}, VR K ga ι H x v → VR K ga ι' H' x v
  | .non, _, h => h
  | .bl _, _, h => h
  | .int _, _, h => h
  | .str _, _, h => h
  | .tup xs, _, h => by
    obtain ⟨a, ys, e1, e2, e3⟩ := h
    exact ⟨a, ys, e1, e.tp _ _ e2, VRs.upU e e3⟩
  | .obj n, _, h => by
    obtain ⟨a, e1, e2⟩ := h
    obtain ⟨⟨δ, rfl⟩, _⟩ := e
    refine ⟨a, ?_, e2⟩
    rw [List.getElem?_append_left (List.getElem?_eq_some_iff.mp e1).1]
    exact e1
  | .rol xs, _, h => by
    obtain ⟨a, ys, e1, e2, e3⟩ := h
    exact ⟨a, ys, e1, e.ro _ _ e2, VRs.upU e e3⟩
  | .glo _, _, h => h
  | .ty _, _, h => h
theorem VRs.upU (e : Up K ι H ι' H') : ∀ {xs : List PV} {vs : List V}, VRs K ga ι H xs vs → VRs K ga ι' H' xs vs
  | [], _, h => h
  | x :: xs, _, h => by
    obtain ⟨y, r, e1, e2, e3⟩ := h
    exact ⟨y, r, e1, VR.upU e e2, VRs.upU e e3⟩
end
theorem DRs.upU (e : Up K ι H ι' H') : ∀ {xs : List (Key × PV)} {l : List (Key × V)}, DRs K ga ι H xs l → DRs K ga ι' H' xs l
  | [], _, h => h
  | x :: xs, _, h => by
    obtain ⟨v, r, e1, e2, e3⟩ := h
    exact ⟨v, r, e1, e2.upU e, DRs.upU e e3⟩
theorem FRs.upU (e : Up K ι H ι' H') : ∀ {xs : List (Str × PV)} {l : List (Str × V)}, FRs K ga ι H xs l → FRs K ga ι' H' xs l
  | [], _, h => h
  | x :: xs, _, h => by
    obtain ⟨v, r, e1, e2, e3⟩ := h
    exact ⟨v, r, e1, e2.upU e, FRs.upU e e3⟩
theorem ORs.upU (e : Up K ι H ι' H') {vs : List (Option PV)} {ws : List (Option V)} (h : ORs K ga ι H vs ws) : ORs K ga ι' H' vs ws :=
  ⟨h.1, fun i x q => let ⟨v, a, b⟩ := h.2 i x q; ⟨v, a, b.upU e⟩⟩
theorem OA.upU (e : Up K ι H ι' H') {a : Addr} : ∀ {o : LO} {ho : HO}, OA K ga ι H a o ho → OA K ga ι' H' a o ho
  | .lst _, _, ⟨ys, h1, h2⟩ => ⟨ys, h1, h2.upU e⟩
  | .dct _, _, ⟨l, h1, h2⟩ => ⟨l, h1, h2.upU e⟩
  | .fdct _, _, ⟨od, l, h1, h2⟩ => ⟨od, l, h1, h2.upU e⟩
  | .ins _ _, _, ⟨dx, l, h1, h2⟩ => ⟨dx, l, h1, h2.upU e⟩
  | .sli _ _, _, ⟨dx, ws, h1, h2, h3⟩ => ⟨dx, ws, h1, e.xd _ _ h2, h3.upU e⟩
  | .odd _ _, _, ⟨ob, kv, vv, h1, h2, h3⟩ => ⟨ob, kv, vv, h1, h2, h3.upU e⟩
theorem VR.up (e : Ext K ι H ι' H') {x : PV} {v : V} (h : VR K ga ι H x v) : VR K ga ι' H' x v := h.upU e.u
theorem VRs.up (e : Ext K ι H ι' H') {x : List PV} {v : List V} (h : VRs K ga ι H x v) : VRs K ga ι' H' x v := h.upU e.u
theorem DRs.up (e : Ext K ι H ι' H') {x : List (Key × PV)} {v : List (Key × V)} (h : DRs K ga ι H x v) : DRs K ga ι' H' x v := h.upU e.u
theorem FRs.up (e : Ext K ι H ι' H') {x : List (Str × PV)} {v : List (Str × V)} (h : FRs K ga ι H x v) : FRs K ga ι' H' x v := h.upU e.u
theorem OA.up (e : Ext K ι H ι' H') {a : Addr} {x : LO} {v : HO} (h : OA K ga ι H a x v) : OA K ga ι' H' a x v := h.upU e.u
/-- the kinds that stand in the logical heap -/
def Mk : HO → Prop
  | .lst _ => True
  | .dK _ => True
  | .ins _ _ _ => True
  | .frz _ (.dK _) => True
  | .frz _ (.own _) => True
  | .ext φ => ∀ c q, HO.ext φ ≠ LamX.CodeO c q
  | _ => False
/-- those that may be written -/
def Mw : HO → Prop
  | .lst _ => True
  | .dK _ => True
  | .ins _ _ _ => True
  | .ext φ => ∀ c q, HO.ext φ ≠ LamX.CodeO c q
  | _ => False
theorem Mw.mk {u : HO} (h : Mw u) : Mk u := by
  cases u <;> first | exact True.intro | exact h | exact h.elim
theorem full_heap (o : Obj) (hf : o.isFreed = false) : ∀ n : Nat, ∃ h : Heap, h.objs.size = n ∧ ∀ i, i < n → h.get? i = Option.some o
  | 0 => ⟨⟨#[], default⟩, rfl, fun i hi => absurd hi (Nat.not_lt_zero i)⟩
  | n + 1 => by
    obtain ⟨h, e1, e2⟩ := full_heap o hf n
    refine ⟨h.push o, by rw [Heap.size_push, e1], fun i hi => ?_⟩
    by_cases hl : i < n
    · exact Heap.get?_push_of_some _ (e2 i hl)
    · have e : i = h.objs.size := by omega
      rw [e]
      exact Heap.get?_push_size _ hf
theorem slO_code {a C dx : Addr} {ws : List (Option V)} {c : Addr} {q : Str} : SlX.SlO a C dx ws ≠ LamX.CodeO c q := fun e => by
  obtain ⟨h, e1, e2⟩ := full_heap { cls := .none, data := .fields #[.none, .str q default] } rfl (Nat.max a c + 1)
  have ha := e2 a (Nat.lt_succ_of_le (Nat.le_max_left _ _))
  have hc := e2 c (Nat.lt_succ_of_le (Nat.le_max_right _ _))
  unfold SlX.SlO LamX.CodeO at e
  injection e with e
  have code : (∃ (oc : Obj) (vs : Array Value) (t : Tok), h.get? c = Option.some oc ∧ oc.data = .fields vs ∧ vs[1]? = Option.some (.str q t)) := ⟨_, _, _, hc, rfl, rfl⟩
  obtain ⟨sl, ho, _⟩ := (congrFun e h).mpr code
  rw [ha] at ho
  injection ho with ho
  have hcl := congrArg Obj.cls ho
  cases hcl
theorem OA.mk {a : Addr} {o : LO} {ho : HO} (h : OA K ga ι H a o ho) : Mk ho := by
  cases o with
  | lst _ => obtain ⟨_, rfl, _⟩ := h; exact True.intro
  | dct _ => obtain ⟨_, rfl, _⟩ := h; exact True.intro
  | fdct _ => obtain ⟨_, _, rfl, _⟩ := h; exact True.intro
  | ins _ _ => obtain ⟨_, _, rfl, _⟩ := h; exact True.intro
  | sli _ _ => obtain ⟨_, _, rfl, _⟩ := h; exact fun _ _ => slO_code
  | odd _ _ => obtain ⟨_, _, _, rfl, _⟩ := h; exact True.intro
theorem Wd.some (w : Wd K ga ι L H) {a : Addr} (h : a ∈ ι) : ∃ ho, H a = some ho ∧ Mk ho := by
  obtain ⟨n, hn⟩ := List.mem_iff_getElem?.mp h
  have hl : n < L.length := by rw [← w.len]; exact (List.getElem?_eq_some_iff.mp hn).1
  obtain ⟨ho, h1, h2⟩ := w.at_ n a L[n] hn (List.getElem?_eq_getElem hl)
  exact ⟨ho, h1, h2.mk⟩
/-- a new thing that is not told -/
theorem Ext.new {p : Addr} {o : HO} (hp : H p = none) : Ext K ι H ι (upd H p o) := by
  have k : ∀ a u, H a = some u → upd H p o a = some u := fun a u h => by rw [upd_ne (ne_of_none h hp)]; exact h
  refine ⟨⟨[], by simp, fun _ h => nomatch h⟩, fun a u _ h _ _ => k a u h, fun a ys h => ?_, fun a ys h => ?_, fun a o' u h => ?_, fun a y _ h => .inl (k _ _ h), fun a l h => k _ _ h⟩
  · rcases h with (h | ⟨u, h⟩) | h
    · exact .inl (.inl (k _ _ h))
    · exact .inl (.inr ⟨u, k _ _ h⟩)
    · exact .inr h
  · rcases h with ⟨u, h⟩ | h
    · exact .inl ⟨u, k _ _ h⟩
    · exact .inr h
  · exact k _ _ h
theorem Wd.ext (w : Wd K ga ι L H) (e : Ext K ι H ι H') (s : ∀ a ∈ ι, H' a = H a) (t : LamX.Tabs ga.T H') : Wd K ga ι L H' :=
  ⟨w.len, w.nd, fun n a o h1 h2 => let ⟨ho, q1, q2⟩ := w.at_ n a o h1 h2; ⟨ho, (s a (List.mem_of_getElem? h1)).trans q1, q2.up e⟩, t⟩
theorem Wd.new (w : Wd K ga ι L H) {p : Addr} {o : HO} (hp : H p = none) : Wd K ga ι L (upd H p o) :=
  w.ext (Ext.new hp) (fun a h => upd_ne (by obtain ⟨u, q, _⟩ := w.some h; exact ne_of_none q hp)) (w.tb.ext fun b u q => by rw [upd_ne (ne_of_none q hp)]; exact q)
/-- a new object of the logical heap -/
theorem Ext.alloc {p : Addr} {o : HO} (hp : H p = none) : Ext K ι H (ι ++ [p]) (upd H p o) := by
  have e := Ext.new (K := K) (ι := ι) (o := o) hp
  exact ⟨⟨[p], rfl, fun a h => by
    have z : a = p := by simpa using h
    exact .inr (.of (z ▸ hp))⟩, e.st, e.tp, e.ro, e.fz, e.ow, e.xd⟩
theorem Wd.alloc (w : Wd K ga ι L H) {p : Addr} {o : LO} {ho : HO} (hp : H p = none) (r : OA K ga (ι ++ [p]) (upd H p ho) p o ho) : Wd K ga (ι ++ [p]) (L ++ [o]) (upd H p ho) := by
  have hn : p ∉ ι := fun h => by obtain ⟨u, q, _⟩ := w.some h; rw [hp] at q; cases q
  refine ⟨by simp [w.len], ?_, fun n a u h1 h2 => ?_, w.tb.ext fun b u q => by rw [upd_ne (ne_of_none q hp)]; exact q⟩
  · rw [List.nodup_append]
    exact ⟨w.nd, by simp, fun a ha b hb => by
      have z : b = p := by simpa using hb
      exact fun y => hn ((y.trans z) ▸ ha)⟩
  · by_cases hl : n < ι.length
    · rw [List.getElem?_append_left hl] at h1
      rw [List.getElem?_append_left (by rw [← w.len]; exact hl)] at h2
      obtain ⟨q, q1, q2⟩ := w.at_ n a u h1 h2
      exact ⟨q, by rw [upd_ne (ne_of_none q1 hp)]; exact q1, q2.up (Ext.alloc hp)⟩
    · have hl2 : n = ι.length := by
        have := (List.getElem?_eq_some_iff.mp h1).1
        rw [List.length_append] at this
        simp at this
        omega
      subst hl2
      have e1 : a = p := by simpa using h1.symm
      have e2 : u = o := by rw [w.len] at h2; simpa using h2.symm
      subst e1 e2
      exact ⟨ho, upd_same, r⟩
theorem tabS_upd {a : Addr} {o u : HO} (q : H a = Option.some u) (m : Mk u) {P : Addr} {z : Str} (h : LamX.TabS H P z) : LamX.TabS (upd H a o) P z := by
  obtain ⟨ps, h1, h2, h3⟩ := h
  have ne : P ≠ a := fun e => by rw [e, q] at h1; cases h1; exact m
  refine ⟨ps, by rw [upd_ne ne]; exact h1, h2, fun pos cv hc => ?_⟩
  obtain ⟨c, e1, e2⟩ := h3 pos cv hc
  have nc : c ≠ a := fun e => by rw [e, q] at e2; cases e2; exact m _ _ rfl
  exact ⟨c, e1, by rw [upd_ne nc]; exact e2⟩
/-- an object is changed -/
theorem Ext.set {n : Nat} {a : Addr} {o u : HO} (h : ι[n]? = Option.some a) (q : H a = Option.some u) (m : Mw u) : Ext K ι H ι (upd H a o) := by
  have hm := List.mem_of_getElem? h
  have k : ∀ b u', b ≠ a → H b = Option.some u' → upd H a o b = Option.some u' := fun b u' hb h => by rw [upd_ne hb]; exact h
  have nb : ∀ (b : Addr) (u' : HO), H b = Option.some u' → ¬ Mw u' → b ≠ a := fun b u' h' nm z => by rw [z, q] at h'; cases h'; exact nm m
  refine ⟨⟨[], by simp, fun _ h => nomatch h⟩, fun b u' hb h _ _ => k b u' (fun z => hb (z ▸ hm)) h, fun b ys h => ?_, fun b ys h => ?_, fun b o' u' h => k _ _ (nb b _ h fun z => z) h, fun b y hb h => .inl (k _ _ (fun z => hb (z ▸ hm)) h), fun b l h => k _ _ (nb b _ h fun z => z) h⟩
  · rcases h with (h | ⟨u', h⟩) | h
    · exact .inl (.inl (k _ _ (nb b _ h fun z => z) h))
    · exact .inl (.inr ⟨u', k _ _ (nb b _ h fun z => z) h⟩)
    · exact .inr h
  · rcases h with ⟨u', h⟩ | h
    · exact .inl ⟨u', k _ _ (nb b _ h fun z => z) h⟩
    · exact .inr h
theorem Wd.put (w : Wd K ga ι L H) {n : Nat} {a : Addr} {o : LO} {ho : HO} (h : ι[n]? = Option.some a) (up : Up K ι H ι (upd H a ho)) (tb : LamX.Tabs ga.T (upd H a ho)) (r : OA K ga ι (upd H a ho) a o ho) : Wd K ga ι (L.set n o) (upd H a ho) := by
  refine ⟨by simp [w.len], w.nd, fun m b u' h1 h2 => ?_, tb⟩
  have hn : n < L.length := by rw [← w.len]; exact (List.getElem?_eq_some_iff.mp h).1
  by_cases hm : m = n
  · subst hm
    rw [h] at h1
    cases h1
    rw [List.getElem?_set_self hn] at h2
    cases h2
    exact ⟨ho, upd_same, r⟩
  · rw [List.getElem?_set_ne (Ne.symm hm)] at h2
    obtain ⟨q, q1, q2⟩ := w.at_ m b u' h1 h2
    have hb : b ≠ a := fun z => by
      subst z
      obtain ⟨l1, e1⟩ := List.getElem?_eq_some_iff.mp h1
      obtain ⟨l2, e2⟩ := List.getElem?_eq_some_iff.mp h
      exact hm ((List.getElem_inj w.nd).mp (e1.trans e2.symm))
    exact ⟨q, by rw [upd_ne hb]; exact q1, q2.upU up⟩
theorem Wd.set (w : Wd K ga ι L H) {n : Nat} {a : Addr} {o : LO} {ho u : HO} (h : ι[n]? = Option.some a) (q : H a = Option.some u) (m : Mw u) (r : OA K ga ι (upd H a ho) a o ho) : Wd K ga ι (L.set n o) (upd H a ho) := w.put h (Ext.set h q m).u (fun x hx => tabS_upd q m.mk (w.tb x hx)) r
theorem VRs.len : ∀ {xs : List PV} {vs : List V}, VRs K ga ι H xs vs → xs.length = vs.length
  | [], _, h => by cases h; rfl
  | x :: xs, _, h => by obtain ⟨y, r, rfl, _, h2⟩ := h; simp [VRs.len h2]
theorem VRs.get : ∀ {xs : List PV} {vs : List V} {i : Nat} {x : PV}, VRs K ga ι H xs vs → xs[i]? = Option.some x → ∃ v, vs[i]? = Option.some v ∧ VR K ga ι H x v
  | [], _, _, _, _, e => by simp at e
  | y :: xs, _, 0, x, h, e => by obtain ⟨v, r, rfl, h1, _⟩ := h; simp at e; subst e; exact ⟨v, rfl, h1⟩
  | y :: xs, _, i + 1, x, h, e => by
    obtain ⟨v, r, rfl, _, h2⟩ := h
    obtain ⟨u, q1, q2⟩ := VRs.get (i := i) (x := x) h2 (by simpa using e)
    exact ⟨u, by simpa using q1, q2⟩
theorem VRs.app : ∀ {xs ys : List PV} {vs us : List V}, VRs K ga ι H xs vs → VRs K ga ι H ys us → VRs K ga ι H (xs ++ ys) (vs ++ us)
  | [], _, _, _, h, k => by cases h; exact k
  | x :: xs, _, _, _, h, k => by obtain ⟨y, r, rfl, h1, h2⟩ := h; exact ⟨y, r ++ _, rfl, h1, VRs.app h2 k⟩
theorem VRs.drop : ∀ {xs : List PV} {vs : List V} (n : Nat), VRs K ga ι H xs vs → VRs K ga ι H (xs.drop n) (vs.drop n)
  | _, _, 0, h => h
  | [], _, _ + 1, h => by cases h; rfl
  | x :: xs, _, n + 1, h => by obtain ⟨y, r, rfl, h1, h2⟩ := h; exact VRs.drop n h2
theorem VRs.take : ∀ {xs : List PV} {vs : List V} (n : Nat), VRs K ga ι H xs vs → VRs K ga ι H (xs.take n) (vs.take n)
  | _, _, 0, h => rfl
  | [], _, _ + 1, h => by cases h; rfl
  | x :: xs, _, n + 1, h => by obtain ⟨y, r, rfl, h1, h2⟩ := h; exact ⟨y, r.take n, rfl, h1, VRs.take n h2⟩
theorem VRs.set {x : PV} {v : V} (hx : VR K ga ι H x v) : ∀ {xs : List PV} {vs : List V} (n : Nat), VRs K ga ι H xs vs → VRs K ga ι H (xs.set n x) (vs.set n v)
  | [], _, _, h => by cases h; rfl
  | y :: xs, _, 0, h => by obtain ⟨u, r, rfl, h1, h2⟩ := h; exact ⟨v, r, rfl, hx, h2⟩
  | y :: xs, _, n + 1, h => by obtain ⟨u, r, rfl, h1, h2⟩ := h; exact ⟨u, r.set n v, rfl, h1, VRs.set hx n h2⟩
variable {Z : Zs}
theorem xd_not {w : Wd K ga ι L H} {d : Addr} {l : List (Str × V)} (h : H d = some (.xd l)) : d ∉ ι := fun z => by
  obtain ⟨u, q, m⟩ := w.some z
  rw [h] at q; cases q; exact m
theorem Ext.keep (e : Ext K ι H ι' H') {p : Addr} {u : HO} (hp : H p = Option.some u) (hn : p ∉ ι) (ht : ∀ ps, u ≠ .tbl ps := by intro _ h; cases h) (hw : ∀ y, u ≠ .own y := by intro _ h; cases h) : H' p = Option.some u ∧ p ∉ ι' := by
  refine ⟨e.st p u hn hp ht hw, fun z => ?_⟩
  obtain ⟨⟨δ, rfl, hd⟩, _⟩ := e
  rcases List.mem_append.mp z with z | z
  · exact hn z
  · rcases hd p z with z | z
    · exact hn z
    · obtain ⟨ps, y⟩ := z u hp
      exact ht ps y
theorem SR.up {τ : Sl} {σ : L2.St} (h : SR K Z ι H τ σ) (e : Ext K ι H ι' H') : SR K Z ι' H' τ σ :=
  ⟨h.len, fun i x q => let ⟨v, a, b⟩ := h.at_ i x q; ⟨v, a, b.up e⟩, fun g hg => by
    obtain ⟨a, n, b⟩ := h.gh g hg
    unfold GhOk
    cases hq : g.q with
    | none =>
      rw [hq] at b
      obtain ⟨l, b, c⟩ := b
      obtain ⟨b', n'⟩ := e.keep b n
      exact ⟨a, n', l, b', c.up e⟩
    | some q =>
      rw [hq] at b
      obtain ⟨b', n'⟩ := e.keep b.1 n (by intro _ h; cases h) (by intro _ h; cases h)
      exact ⟨a, n', b', b.2.trans e.u⟩⟩
theorem SR.set {τ : Sl} {σ : L2.St} {x : PV} {v : V} (h : SR K Z ι H τ σ) (i : Nat) (hz : Z.ok i = true) (hx : VR K Z.f ι H x v) : SR K Z ι H (τ.set i (Option.some x)) (σ.set i (Option.some v)) := by
  refine ⟨by simp [h.len], fun j y q => ?_, fun g hg => ?_⟩
  · by_cases hj : j = i
    · subst hj
      have hl : j < τ.length := by
        have := (List.getElem?_eq_some_iff.mp q).1
        simpa using this
      rw [List.getElem?_set_self hl] at q
      cases q
      exact ⟨v, by rw [List.getElem?_set_self (h.len ▸ hl)], hx⟩
    · rw [List.getElem?_set_ne (Ne.symm hj)] at q
      rw [List.getElem?_set_ne (Ne.symm hj)]
      exact h.at_ j y q
  · obtain ⟨a, b⟩ := h.gh g hg
    have z := List.all_eq_true.mp hz g hg
    refine ⟨?_, b⟩
    rw [List.getElem?_set_ne (by intro y; rw [y] at z; simp at z)]
    exact a
theorem SR.gone {τ : Sl} {σ : L2.St} (h : SR K Z ι H τ σ) (i : Nat) (hz : Z.ok i = true) : SR K Z ι H (τ.set i none) (σ.set i none) := by
  refine ⟨by simp [h.len], fun j y q => ?_, fun g hg => ?_⟩
  · by_cases hj : j = i
    · subst hj
      have hl : j < τ.length := by
        have := (List.getElem?_eq_some_iff.mp q).1
        simpa using this
      rw [List.getElem?_set_self hl] at q
      cases q
    · rw [List.getElem?_set_ne (Ne.symm hj)] at q
      rw [List.getElem?_set_ne (Ne.symm hj)]
      exact h.at_ j y q
  · obtain ⟨a, b⟩ := h.gh g hg
    have z := List.all_eq_true.mp hz g hg
    refine ⟨?_, b⟩
    rw [List.getElem?_set_ne (by intro y; rw [y] at z; simp at z)]
    exact a
theorem Up.tmp {p : Addr} {o : HO} {u : HO} (hp : H p = Option.some u) (m : Mk u) : Up K ι H ι (upd H p o) := by
  refine ⟨⟨[], by simp⟩, fun b ys h => ?_, fun b ys h => ?_, fun b l h => by rw [upd_ne (fun z => by rw [z, hp] at h; cases h; exact m)]; exact h⟩
  · have nb : ∀ u', H b = Option.some u' → ¬ Mk u' → b ≠ p := fun u' h' nm z => by rw [z, hp] at h'; cases h'; exact nm m
    rcases h with (h | ⟨u', h⟩) | h
    · exact .inl (.inl (by rw [upd_ne (nb _ h fun z => z)]; exact h))
    · exact .inl (.inr ⟨u', by rw [upd_ne (nb _ h fun z => z)]; exact h⟩)
    · exact .inr h
  · have nb : ∀ u', H b = Option.some u' → ¬ Mk u' → b ≠ p := fun u' h' nm z => by rw [z, hp] at h'; cases h'; exact nm m
    rcases h with ⟨u', h⟩ | h
    · exact .inl ⟨u', by rw [upd_ne (nb _ h fun z => z)]; exact h⟩
    · exact .inr h
theorem Wd.tmp (w : Wd K ga ι L H) {p : Addr} {o u : HO} (hp : H p = Option.some u) (m : Mk u) (hn : p ∉ ι) : Wd K ga ι L (upd H p o) :=
  ⟨w.len, w.nd, fun n a x h1 h2 => let ⟨ho, q1, q2⟩ := w.at_ n a x h1 h2; ⟨ho, by rw [upd_ne (fun z : a = p => hn (by rw [← z]; exact List.mem_of_getElem? h1))]; exact q1, q2.upU (Up.tmp hp m)⟩, fun x hx => tabS_upd hp m (w.tb x hx)⟩
theorem SR.tmp {τ : Sl} {σ : L2.St} (s : SR K Z ι H τ σ) {p : Addr} {o u : HO} (hp : H p = Option.some u) (m : Mk u) : SR K Z ι (upd H p o) τ σ :=
  ⟨s.len, fun i x q => let ⟨v, a, b⟩ := s.at_ i x q; ⟨v, a, b.upU (Up.tmp hp m)⟩, fun g hg => by
    obtain ⟨a, n, b⟩ := s.gh g hg
    unfold GhOk
    cases hq : g.q with
    | none =>
      rw [hq] at b
      obtain ⟨l, b, c⟩ := b
      exact ⟨a, n, l, by rw [upd_ne (fun z => by rw [z, hp] at b; cases b; exact m)]; exact b, c.upU (Up.tmp hp m)⟩
    | some q =>
      rw [hq] at b
      obtain ⟨b, c⟩ := b
      exact ⟨a, n, (upd_ne (fun z => by rw [z, hp] at b; cases b; exact m _ _ rfl)).trans b, c.trans (Up.tmp hp m)⟩⟩
/-- seen from a heap that has no p yet -/
theorem Ext.tmp (e : Ext K ι H ι' H') {p : Addr} {o u : HO} (h0 : Fre H p) (hp : H' p = Option.some u) (m : Mk u) : Ext K ι H ι' (upd H' p o) :=
  have nf : ∀ a x, H a = Option.some x → (∀ ps, x ≠ .tbl ps) → a ≠ p := fun a x h nt z => by rw [z] at h; obtain ⟨ps, y⟩ := h0 _ h; exact nt ps y
  ⟨e.gr, fun a x ha h nt no => by rw [upd_ne (nf a x h nt)]; exact e.st a x ha h nt no, fun a ys h => (Up.tmp (K := K) (ι := ι') hp m).tp _ _ (e.tp _ _ h), fun a ys h => (Up.tmp (K := K) (ι := ι') hp m).ro _ _ (e.ro _ _ h), fun a o' u' h => by rw [upd_ne (nf a _ h (fun _ z => nomatch z))]; exact e.fz _ _ _ h, fun a y ha h => by rw [upd_ne (nf a _ h (fun _ z => nomatch z))]; exact e.ow _ _ ha h, fun a l h => by rw [upd_ne (nf a _ h (fun _ z => nomatch z))]; exact e.xd _ _ h⟩
/-- it becomes an object of the logical heap -/
theorem Wd.adopt (w : Wd K ga ι L H) {p : Addr} {o : LO} {ho : HO} (hp : H p = Option.some ho) (hn : p ∉ ι) (r : OA K ga ι H p o ho) : Wd K ga (ι ++ [p]) (L ++ [o]) H := by
  have u : Up K ι H (ι ++ [p]) H := ⟨⟨[p], rfl⟩, fun _ _ h => h, fun _ _ h => h, fun _ _ h => h⟩
  refine ⟨by simp [w.len], ?_, fun n a x h1 h2 => ?_, w.tb⟩
  · rw [List.nodup_append]
    exact ⟨w.nd, by simp, fun a ha b hb => by
      have z : b = p := by simpa using hb
      exact fun y => hn ((y.trans z) ▸ ha)⟩
  · by_cases hl : n < ι.length
    · rw [List.getElem?_append_left hl] at h1
      rw [List.getElem?_append_left (by rw [← w.len]; exact hl)] at h2
      obtain ⟨q, q1, q2⟩ := w.at_ n a x h1 h2
      exact ⟨q, q1, q2.upU u⟩
    · have hl2 : n = ι.length := by
        have := (List.getElem?_eq_some_iff.mp h1).1
        rw [List.length_append] at this
        simp at this
        omega
      subst hl2
      have e1 : a = p := by simpa using h1.symm
      have e2 : x = o := by rw [w.len] at h2; simpa using h2.symm
      subst e1 e2
      exact ⟨ho, hp, r.upU u⟩
theorem Ext.adopt (e : Ext K ι H ι' H') {p : Addr} (h0 : Fre H p) : Ext K ι H (ι' ++ [p]) H' := by
  obtain ⟨⟨δ, rfl, hd⟩, s, t, r, f, ow, x⟩ := e
  refine ⟨⟨δ ++ [p], by simp, fun a h => ?_⟩, s, t, r, f, ow, x⟩
  rcases List.mem_append.mp h with h | h
  · exact hd a h
  · have z : a = p := by simpa using h
    exact .inr (z ▸ h0)
end
end FL
namespace FL
open PySem PySem.Spec PyProof.Rows L2
abbrev ME := Sl → LH → R PV
abbrev MA := Sl → LH → R (List PV)
abbrev MT := Sl → LH → R Bool
abbrev MS := Sl → LH → RS
/-- a result, for what is wanted -/
def gd {α β : Type} (K : PySem.W.Frag) (ga : Ga) (W : WX) (rel : List Addr → Hp → α → β → Prop) (r : R α) (ι : List Addr) (H : Hp) (σ : L2.St) (P : α → LH → List Addr → β → Hp → Prop) : Prop := match r with
  | .ok x L' => ∀ ι' H' v, Ext K ι H ι' H' → Wd K ga ι' L' H' → rel ι' H' x v → P x L' ι' v H'
  | .ex c fs L' => ∀ ι' H' d l, Ext K ι H ι' H' → Wd K ga ι' L' H' → XdAt H' d l → FRs K ga ι' H' fs l → W (.ref (ga c)) d σ H'
  | .no => False
section
variable {K : PySem.W.Frag} {ga : Ga} {W : WX} {α β γ δ : Type} {rel : List Addr → Hp → α → β → Prop} {rel2 : List Addr → Hp → γ → δ → Prop} {ι ι' : List Addr} {H H' : Hp} {σ : L2.St} {L : LH}
theorem gd.ext {r : R α} {P : α → LH → List Addr → β → Hp → Prop} (h : gd K ga W rel r ι H σ P) (e : Ext K ι H ι' H') : gd K ga W rel r ι' H' σ P := by
  cases r with
  | ok x L' => exact fun ι2 H2 v e2 w r => h ι2 H2 v (e.trans e2) w r
  | ex c fs L' => exact fun ι2 H2 d l e2 w a b => h ι2 H2 d l (e.trans e2) w a b
  | no => exact h
theorem gd.bind {r : R α} {k : α → LH → R γ} {P : γ → LH → List Addr → δ → Hp → Prop} {P1 : α → LH → List Addr → β → Hp → Prop} (h : gd K ga W rel2 (r.bind k) ι H σ P)
    (q : ∀ x L1 ι1 v H1, r = .ok x L1 → Ext K ι H ι1 H1 → Wd K ga ι1 L1 H1 → rel ι1 H1 x v → gd K ga W rel2 (k x L1) ι1 H1 σ P → P1 x L1 ι1 v H1) : gd K ga W rel r ι H σ P1 := by
  cases r with
  | ok x L' => exact fun ι2 H2 v e2 w r => q x L' ι2 v H2 rfl e2 w r (gd.ext h e2)
  | ex c fs L' => exact h
  | no => exact h
theorem gd.ok {x : α} {v : β} {P : α → LH → List Addr → β → Hp → Prop} (h : gd K ga W rel (.ok x L) ι H σ P) (w : Wd K ga ι L H) (r : rel ι H x v) : P x L ι v H := h ι H v Ext.refl w r
theorem gd.ok' {x : α} {v : β} {L' : LH} {P : α → LH → List Addr → β → Hp → Prop} (h : gd K ga W rel (.ok x L') ι H σ P) (e : Ext K ι H ι' H') (w : Wd K ga ι' L' H') (r : rel ι' H' x v) : P x L' ι' v H' := h ι' H' v e w r
theorem gd.mono {r : R α} {P P' : α → LH → List Addr → β → Hp → Prop} (h : gd K ga W rel r ι H σ P) (q : ∀ x L1 ι1 v H1, Ext K ι H ι1 H1 → Wd K ga ι1 L1 H1 → rel ι1 H1 x v → P x L1 ι1 v H1 → P' x L1 ι1 v H1) : gd K ga W rel r ι H σ P' := by
  cases r with
  | ok x L' => exact fun ι2 H2 v e2 w r => q x L' ι2 v H2 e2 w r (h ι2 H2 v e2 w r)
  | ex c fs L' => exact h
  | no => exact h
end
/-- the reading of a mirror -/
def tM {α β : Type} (K : PySem.W.Frag) (Z : Zs) (W : WX) (rel : List Addr → Hp → α → β → Prop) (m : Sl → LH → R α) : L2.St → Hp → (β → Hp → Prop) → Prop := fun σ H Q =>
  ∃ ι L τ, Wd K Z.f ι L H ∧ SR K Z ι H τ σ ∧ gd K Z.f W rel (m τ L) ι H σ fun _ _ _ v H' => Q v H'
abbrev relB : List Addr → Hp → Bool → Bool → Prop := fun _ _ a b => a = b
section
variable {K : PySem.W.Frag} {Z : Zs} {W : WX} {α β γ δ : Type} {rel : List Addr → Hp → α → β → Prop} {rel2 : List Addr → Hp → γ → δ → Prop} {σ : L2.St} {H : Hp}
theorem tM.bind {m : Sl → LH → R α} {k : Sl → α → LH → R γ} {Q : δ → Hp → Prop} {Q1 : β → Hp → Prop} (h : tM K Z W rel2 (fun τ L => (m τ L).bind (k τ)) σ H Q)
    (q : ∀ τ x L1 ι1 v H1, Wd K Z.f ι1 L1 H1 → SR K Z ι1 H1 τ σ → rel ι1 H1 x v → gd K Z.f W rel2 (k τ x L1) ι1 H1 σ (fun _ _ _ v H' => Q v H') → Q1 v H1) : tM K Z W rel m σ H Q1 := by
  obtain ⟨ι, L, τ, w, s, g⟩ := h
  exact ⟨ι, L, τ, w, s, g.bind fun x L1 ι1 v H1 _ e w1 r g1 => q τ x L1 ι1 v H1 w1 (s.up e) r g1⟩
end
section
variable (Z : Zs) (X : Cx) (W : WX)
abbrev FE (e : Expr) (m : ME) : Prop := PE X e (tM X.K Z W (VR X.K Z.f) m)
abbrev FA (es : List Expr) (m : MA) : Prop := PA X es (tM X.K Z W (VRs X.K Z.f) m)
abbrev FT (e : Expr) (m : MT) : Prop := PT X e (tM X.K Z W relB m)
abbrev FW (e : Expr) (m : MT) : Prop := PW X e (tM X.K Z W relB m)
end
theorem PE.imp {X : Cx} {e : Expr} {t t' : TE} (h : PE X e t) (q : ∀ σ H Q, t' σ H Q → t σ H Q) : PE X e t' := ⟨fun pins s σ H Q I z => h.run pins s σ H Q I (q _ _ _ z)⟩
theorem PT.imp {X : Cx} {e : Expr} {t t' : TT} (h : PT X e t) (q : ∀ σ H Q, t' σ H Q → t σ H Q) : PT X e t' := ⟨fun pins s σ H Q I z => h.run pins s σ H Q I (q _ _ _ z)⟩
theorem PW.imp {X : Cx} {e : Expr} {t t' : TT} (h : PW X e t) (q : ∀ σ H Q, t' σ H Q → t σ H Q) : PW X e t' := ⟨fun wh pins s σ H Q I z => h.run wh pins s σ H Q I (q _ _ _ z)⟩
theorem PA.imp {X : Cx} {es : List Expr} {t t' : TA} (h : PA X es t) (q : ∀ σ H Q, t' σ H Q → t σ H Q) : PA X es t' := ⟨fun pos pins s σ H Q I z => h.run pos pins s σ H Q I (q _ _ _ z)⟩
theorem PS.imp {X : Cx} {e : Stmt} {t t' : TS} (h : PS X e t) (q : ∀ D σ H, t' D σ H → t D σ H) : PS X e t' := ⟨fun pins s σ H D I z => h.run pins s σ H D I (q _ _ _ z)⟩
theorem PSs.imp {X : Cx} {e : List Stmt} {t t' : TS} (h : PSs X e t) (q : ∀ D σ H, t' D σ H → t D σ H) : PSs X e t' := ⟨fun pins s σ H D I z => h.run pins s σ H D I (q _ _ _ z)⟩
def eC (v : PV) : ME := fun _ L => .ok v L
def eV (i : Nat) : ME := fun τ L => match τ[i]? with
  | some (some x) => .ok x L
  | _ => .no
def eOp (f : PV → PV → LH → R PV) (ma mb : ME) : ME := fun τ L => (ma τ L).bind fun x L1 => (mb τ L1).bind fun y L2 => f x y L2
def eUn (f : PV → LH → R PV) (ma : ME) : ME := fun τ L => (ma τ L).bind fun x L1 => f x L1
def aN : MA := fun _ L => .ok [] L
def aC (ma : ME) (mr : MA) : MA := fun τ L => (ma τ L).bind fun x L1 => (mr τ L1).bind fun xs L2 => .ok (x :: xs) L2
def eF (f : List PV → LH → R PV) (ma : MA) : ME := fun τ L => (ma τ L).bind fun xs L1 => f xs L1
def eIf (c : MT) (a b : ME) : ME := fun τ L => (c τ L).bind fun k L1 => if k = true then a τ L1 else b τ L1
def tOp2 (f : PV → PV → LH → R PV) (ma mb : ME) : MT := fun τ L => (eOp f ma mb τ L).bind fun x L1 => match x with
  | .bl b => .ok b L1
  | _ => .no
def tNot (c : MT) : MT := fun τ L => (c τ L).bind fun k L1 => .ok (!k) L1
def tAnd (c d : MT) : MT := fun τ L => (c τ L).bind fun k L1 => if k = true then d τ L1 else .ok false L1
def tOr (c d : MT) : MT := fun τ L => (c τ L).bind fun k L1 => if k = true then .ok true L1 else d τ L1
/-- an operator -/
def OpL (K : PySem.W.Frag) (ga : Ga) (f : PV → PV → LH → R PV) (r : R2) : Prop := ∀ W ι L H σ x y u v Q, Wd K ga ι L H → VR K ga ι H x u → VR K ga ι H y v → gd K ga W (VR K ga) (f x y L) ι H σ (fun _ _ _ z H' => Q z H') → r u v H Q
def UnL (K : PySem.W.Frag) (ga : Ga) (f : PV → LH → R PV) (r : V → Hp → VK → Prop) : Prop := ∀ W ι L H σ x u Q, Wd K ga ι L H → VR K ga ι H x u → gd K ga W (VR K ga) (f x L) ι H σ (fun _ _ _ z H' => Q z H') → r u H Q
def CaL (K : PySem.W.Frag) (ga : Ga) (f : List PV → LH → R PV) (r : List V → Hp → VK → Prop) : Prop := ∀ W ι L H σ xs us Q, Wd K ga ι L H → VRs K ga ι H xs us → gd K ga W (VR K ga) (f xs L) ι H σ (fun _ _ _ z H' => Q z H') → r us H Q
section
variable {Z : Zs} {X : Cx} {W : WX} {e a b c : Expr} {es : List Expr} {ma mb : ME} {mr : MA} {tc td : MT} {pos : Pos}
theorem fe_c {v : PV} {u : V} (h : PE X e (tC u)) (r : ∀ ι H, VR X.K Z.f ι H v u) : FE Z X W e (eC v) := PE.imp h fun σ H Q ⟨ι, L, τ, w, s, g⟩ => g.ok w (r ι H)
theorem fe_int {i j pos} : FE Z X W (.Constant (.int i) j pos) (eC (.int i)) := fe_c pe_int fun _ _ => by simp [VR]
theorem fe_bl {i j pos} : FE Z X W (.Constant (.bool i) j pos) (eC (.bl i)) := fe_c pe_bl fun _ _ => by simp [VR]
theorem fe_non {j pos} : FE Z X W (.Constant .none j pos) (eC .non) := fe_c pe_non fun _ _ => by simp [VR]
theorem fe_str {x j pos} : FE Z X W (.Constant (.str x) j pos) (eC (.str x)) := fe_c pe_str fun _ _ => by simp [VR]
theorem fe_v {i : Nat} {x : Str} {pos : Pos} (hN : X.N[i]? = some x) (hv : Vis X.env.scope x) (hd : (x == ("__debug__" : Str)) = false := by decide) (hcd : (x == ("__classdict__" : Str)) = false := by decide) : FE Z X W (.Name x pos) (eV i) :=
  PE.imp (pe_var hN hv hd hcd) fun σ H Q ⟨ι, L, τ, w, s, g⟩ => by
    unfold eV at g
    split at g
    · rename_i x q
      obtain ⟨v, h1, h2⟩ := s.at_ i x q
      exact ⟨v, h1, g.ok w h2⟩
    · exact g.elim
theorem fe_op {op : Operator} {f : PV → PV → LH → R PV} {r : R2} (ho : OpR X (binaryOp op) r) (hf : OpL X.K Z.f f r) (ha : FE Z X W a ma) (hb : FE Z X W b mb) : FE Z X W (.BinOp a op b pos) (eOp f ma mb) :=
  PE.imp (pe_op ho ha hb) fun σ H Q h => tM.bind h fun τ x L1 ι1 u H1 w1 s1 r1 g1 => ⟨ι1, L1, τ, w1, s1, g1.bind fun y L2 ι2 v H2 _ e w2 r2 g2 => hf W ι2 L2 H2 σ x y u v Q w2 (r1.up e) r2 g2⟩
theorem fe_un {op : UnaryOp} {f : PV → LH → R PV} {r : V → Hp → VK → Prop} (ho : UnR X (unaryOp op) r) (hf : UnL X.K Z.f f r) (ha : FE Z X W a ma) : FE Z X W (.UnaryOp op a pos) (eUn f ma) :=
  PE.imp (pe_un ho ha) fun σ H Q h => tM.bind h fun τ x L1 ι1 u H1 w1 s1 r1 g1 => hf W ι1 L1 H1 σ x u Q w1 r1 g1
theorem fe_cmp {op : CmpOp} {f : PV → PV → LH → R PV} {r : R2} (ho : OpR X (compareOp op) r) (hf : OpL X.K Z.f f r) (ha : FE Z X W a ma) (hb : FE Z X W b mb) (hm : behindInMarks op b = false) : FE Z X W (.Compare a [op] [b] pos) (eOp f ma mb) :=
  PE.imp (pe_cmpR ho ha hb hm) fun σ H Q h => tM.bind h fun τ x L1 ι1 u H1 w1 s1 r1 g1 => ⟨ι1, L1, τ, w1, s1, g1.bind fun y L2 ι2 v H2 _ e w2 r2 g2 => hf W ι2 L2 H2 σ x y u v Q w2 (r1.up e) r2 g2⟩
theorem ft_cmp {op : CmpOp} {f : PV → PV → LH → R PV} {r : R2} (ho : OpR X (compareOp op) r) (hf : OpL X.K Z.f f r) (ha : FE Z X W a ma) (hb : FE Z X W b mb) (hm : behindInMarks op b = false) : FT Z X W (.Compare a [op] [b] pos) (tOp2 f ma mb) :=
  PT.imp (pt_cmpR ho ha hb hm) fun σ H Q ⟨ι, L, τ, w, s, g⟩ => by
    have h : tM X.K Z W (VR X.K Z.f) (eOp f ma mb) σ H (fun v H' => ∃ b, v = .bl b ∧ Q b H') := ⟨ι, L, τ, w, s, g.bind fun x L1 ι1 v H1 _ e w1 r g1 => by
      cases x with
      | bl b => exact ⟨b, by simpa [VR] using r, g1.ok w1 rfl⟩
      | _ => exact g1.elim⟩
    exact tM.bind h fun τ x L1 ι1 u H1 w1 s1 r1 g1 => ⟨ι1, L1, τ, w1, s1, g1.bind fun y L2 ι2 v H2 _ e w2 r2 g2 => hf W ι2 L2 H2 σ x y u v _ w2 (r1.up e) r2 g2⟩
theorem fa_nil : FA Z X W [] aN := PA.imp pa_nil fun σ H Q ⟨ι, L, τ, w, s, g⟩ => g.ok w (by simp [VRs])
theorem fa_cons (ha : FE Z X W e ma) (hr : FA Z X W es mr) (hs : starEach (e :: es) X.env = (false, eval e X.env) :: starEach es X.env := by rfl) : FA Z X W (e :: es) (aC ma mr) :=
  PA.imp (pa_cons ha hr hs) fun σ H Q h => tM.bind h fun τ x L1 ι1 u H1 w1 s1 r1 g1 => ⟨ι1, L1, τ, w1, s1, g1.bind fun y L2 ι2 v H2 _ e w2 r2 g2 => g2.ok w2 ⟨u, v, rfl, r1.up e, r2⟩⟩
theorem fe_if (hc : FT Z X W c tc) (ha : FE Z X W a ma) (hb : FE Z X W b mb) : FE Z X W (.IfExp c a b pos) (eIf tc ma mb) :=
  PE.imp (pe_ifExp hc ha hb) fun σ H Q h => tM.bind h fun τ x L1 ι1 u H1 w1 s1 r1 g1 => by
    cases (show x = u from r1)
    cases x with
    | true => exact ⟨ι1, L1, τ, w1, s1, g1⟩
    | false => exact ⟨ι1, L1, τ, w1, s1, g1⟩
theorem ft_not (hc : FT Z X W c tc) : FT Z X W (.UnaryOp .Not c pos) (tNot tc) :=
  PT.imp (pt_not hc) fun σ H Q h => tM.bind h fun τ x L1 ι1 u H1 w1 s1 r1 g1 => by
    cases (show x = u from r1)
    exact g1.ok w1 rfl
theorem fw_or1 (ha : FT Z X W a tc) : FW Z X W (.BoolOp .Or [a] pos) tc := pw_or1 ha
theorem fw_or {rest : List Expr} (ha : FT Z X W a tc) (hb : FW Z X W (.BoolOp .Or (b :: rest) pos) td) : FW Z X W (.BoolOp .Or (a :: b :: rest) pos) (tOr tc td) :=
  PW.imp (pw_or ha hb) fun σ H Q h => tM.bind h fun τ x L1 ι1 u H1 w1 s1 r1 g1 => by
    cases (show x = u from r1)
    cases x with
    | true => exact g1.ok w1 rfl
    | false => exact ⟨ι1, L1, τ, w1, s1, g1⟩
end
end FL
namespace FL
open PySem PySem.Spec PyProof.Rows L2
def R.st {α : Type} (r : R α) (τ : Sl) (k : α → LH → RS) : RS := match r with
  | .ok x L => k x L
  | .ex c fs L => .ex c fs τ L
  | .no => .no
def gs (K : PySem.W.Frag) (Z : Zs) (W : WX) (r : RS) (ι : List Addr) (H : Hp) (D : Ends) : Prop := match r with
  | .nx τ' L' => ∀ ι' H' σ', Ext K ι H ι' H' → Wd K Z.f ι' L' H' → SR K Z ι' H' τ' σ' → D.nx σ' H'
  | .rt x L' => ∀ ι' H' v, Ext K ι H ι' H' → Wd K Z.f ι' L' H' → VR K Z.f ι' H' x v → D.rt v H'
  | .bk τ' L' => ∀ ι' H' σ', Ext K ι H ι' H' → Wd K Z.f ι' L' H' → SR K Z ι' H' τ' σ' → D.bk σ' H'
  | .ct τ' L' => ∀ ι' H' σ', Ext K ι H ι' H' → Wd K Z.f ι' L' H' → SR K Z ι' H' τ' σ' → D.ct σ' H'
  | .ex c fs τ' L' => ∀ ι' H' σ' d l, Ext K ι H ι' H' → Wd K Z.f ι' L' H' → SR K Z ι' H' τ' σ' → XdAt H' d l → FRs K Z.f ι' H' fs l → W (.ref (Z.f c)) d σ' H'
  | .no => False
def tS (K : PySem.W.Frag) (Z : Zs) (W : WX) (m : MS) : TS := fun D σ H => ∃ ι L τ, Wd K Z.f ι L H ∧ SR K Z ι H τ σ ∧ gs K Z W (m τ L) ι H D
section
variable {K : PySem.W.Frag} {Z : Zs} {W : WX} {α β : Type} {rel : List Addr → Hp → α → β → Prop} {ι ι' : List Addr} {H H' : Hp} {σ : L2.St} {τ : Sl} {L : LH} {D : Ends}
theorem gs.ext {r : RS} (h : gs K Z W r ι H D) (e : Ext K ι H ι' H') : gs K Z W r ι' H' D := by
  cases r with
  | nx => exact fun ι2 H2 v e2 w r => h ι2 H2 v (e.trans e2) w r
  | rt => exact fun ι2 H2 v e2 w r => h ι2 H2 v (e.trans e2) w r
  | bk => exact fun ι2 H2 v e2 w r => h ι2 H2 v (e.trans e2) w r
  | ct => exact fun ι2 H2 v e2 w r => h ι2 H2 v (e.trans e2) w r
  | ex => exact fun ι2 H2 v d l e2 w r => h ι2 H2 v d l (e.trans e2) w r
  | no => exact h
theorem gs.st {r : R α} {k : α → LH → RS} {P1 : α → LH → List Addr → β → Hp → Prop} (h : gs K Z W (r.st τ k) ι H D) (s : SR K Z ι H τ σ)
    (q : ∀ x L1 ι1 v H1, Ext K ι H ι1 H1 → Wd K Z.f ι1 L1 H1 → rel ι1 H1 x v → gs K Z W (k x L1) ι1 H1 D → P1 x L1 ι1 v H1) : gd K Z.f W rel r ι H σ P1 := by
  cases r with
  | ok x L' => exact fun ι2 H2 v e2 w r => q x L' ι2 v H2 e2 w r (gs.ext h e2)
  | ex c fs L' => exact fun ι2 H2 d l e2 w a b => h ι2 H2 σ d l e2 w (s.up e2) a b
  | no => exact h
theorem gs.nx (h : gs K Z W (.nx τ L) ι H D) (w : Wd K Z.f ι L H) (s : SR K Z ι H τ σ) : D.nx σ H := h ι H σ Ext.refl w s
theorem tS.st {m : Sl → LH → R α} {k : Sl → α → LH → RS} {Q1 : β → Hp → Prop} (h : tS K Z W (fun τ L => (m τ L).st τ (k τ)) D σ H)
    (q : ∀ τ x L1 ι1 v H1, Wd K Z.f ι1 L1 H1 → SR K Z ι1 H1 τ σ → rel ι1 H1 x v → gs K Z W (k τ x L1) ι1 H1 D → Q1 v H1) : tM K Z W rel m σ H Q1 := by
  obtain ⟨ι, L, τ, w, s, g⟩ := h
  exact ⟨ι, L, τ, w, s, g.st s fun x L1 ι1 v H1 e w1 r g1 => q τ x L1 ι1 v H1 w1 (s.up e) r g1⟩
end
section
variable (Z : Zs) (X : Cx) (W : WX)
abbrev FS (s : Stmt) (m : MS) : Prop := PS X s (tS X.K Z W m)
abbrev FSs (s : List Stmt) (m : MS) : Prop := PSs X s (tS X.K Z W m)
end
def sN : MS := fun τ L => .nx τ L
def sSeq (a b : MS) : MS := fun τ L => match a τ L with
  | .nx τ' L' => b τ' L'
  | r => r
def sIf (c : MT) (a b : MS) : MS := fun τ L => (c τ L).st τ fun k L1 => if k = true then a τ L1 else b τ L1
def sEx (m : ME) : MS := fun τ L => (m τ L).st τ fun _ L1 => .nx τ L1
def sRt (m : ME) : MS := fun τ L => (m τ L).st τ fun x L1 => .rt x L1
abbrev MG := PV → Sl → LH → R Sl
/-- a store: it raises nothing -/
def R.nx (r : R Sl) : RS := match r with
  | .ok τ L => .nx τ L
  | _ => .no
def sAs (m : ME) (g : MG) : MS := fun τ L => (m τ L).st τ fun x L1 => (g x τ L1).nx
def gN (i : Nat) : MG := fun x τ L => .ok (τ.set i (some x)) L
abbrev MGs := List PV → Sl → LH → R Sl
def gs0 : MGs := fun xs τ L => if xs.isEmpty then .ok τ L else .no
def gs1 (g : MG) (r : MGs) : MGs := fun xs τ L => match xs with
  | [] => .no
  | x :: xs => (g x τ L).bind fun τ' L' => r xs τ' L'
def gT (n : Nat) (g : MGs) : MG := fun x τ L => match x with
  | .tup xs => if xs.length = n then g xs τ L else .no
  | _ => .no
abbrev W0 : WX := fun _ _ _ _ => False
abbrev relS (K : PySem.W.Frag) (Z : Zs) : List Addr → Hp → Sl → L2.St → Prop := fun ι H τ σ => SR K Z ι H τ σ
/-- a target -/
def tG (K : PySem.W.Frag) (Z : Zs) (m : MG) : TG := fun v σ H Q => ∃ ι L τ x, Wd K Z.f ι L H ∧ SR K Z ι H τ σ ∧ VR K Z.f ι H x v ∧ gd K Z.f W0 (relS K Z) (m x τ L) ι H σ fun _ _ _ σ' H' => Q σ' H'
theorem PG.imp {X : Cx} {e : Expr} {t t' : TG} (h : PG X e t) (q : ∀ v σ H Q, t' v σ H Q → t v σ H Q) : PG X e t' := ⟨fun pins s σ H v u Q I r z => h.run pins s σ H v u Q I r (q _ _ _ _ z)⟩
theorem PGs.imp {X : Cx} {e : List Expr} {t t' : TGs} (h : PGs X e t) (q : ∀ v σ H Q, t' v σ H Q → t v σ H Q) : PGs X e t' := ⟨fun pins s σ H v u Q I r z => h.run pins s σ H v u Q I r (q _ _ _ _ z)⟩
section
variable {Z : Zs} {X : Cx} {W : WX} {e a b c : Expr} {es : List Expr} {st : Stmt} {sts sts2 : List Stmt} {me : ME} {ma mb : MS} {tc : MT} {g : MG} {gr : MGs} {pos : Pos}
abbrev FG (Z : Zs) (X : Cx) (e : Expr) (g : MG) : Prop := PG X e (tG X.K Z g)
theorem fs_nil : FSs Z X W [] sN := PSs.imp pss_nil fun D σ H ⟨ι, L, τ, w, s, g⟩ => g.nx w s
theorem gs.seq {K : PySem.W.Frag} {r : RS} {ι : List Addr} {H : Hp} {D : Ends} (h : gs K Z W (match r with | .nx τ' L' => mb τ' L' | r => r) ι H D) : gs K Z W r ι H { D with nx := tS K Z W mb D } := by
  cases r with
  | nx τ' L' => exact fun ι2 H2 σ2 e w s => ⟨ι2, L', τ', w, s, gs.ext h e⟩
  | _ => exact h
theorem fs_cons (h1 : FS Z X W st ma) (h2 : FSs Z X W sts mb) : FSs Z X W (st :: sts) (sSeq ma mb) :=
  PSs.imp (pss_cons h1 h2) fun D σ H ⟨ι, L, τ, w, s, g⟩ => ⟨ι, L, τ, w, s, gs.seq g⟩
theorem fs_one (h1 : FS Z X W st ma) : FSs Z X W [st] ma := pss_one h1
theorem fs_if (hc : FT Z X W c tc) (ha : FSs Z X W sts ma) (hb : FSs Z X W sts2 mb) : FS Z X W (.If c sts sts2 pos) (sIf tc ma mb) :=
  PS.imp (ps_if hc ha hb) fun D σ H h => tS.st h fun τ x L1 ι1 u H1 w1 s1 r1 g1 => by
    cases (show x = u from r1)
    cases x with
    | true => exact ⟨ι1, L1, τ, w1, s1, g1⟩
    | false => exact ⟨ι1, L1, τ, w1, s1, g1⟩
theorem fs_expr (he : FE Z X W e me) (hs : swapsWith e none pos.line X.env = pure false := by rfl) : FS Z X W (.Expr e pos) (sEx me) :=
  PS.imp (ps_expr he hs) fun D σ H h => tS.st h fun τ x L1 ι1 u H1 w1 s1 r1 g1 => g1.nx w1 s1
theorem fs_ret (he : FE Z X W e me) : FS Z X W (.Return (some e) pos) (sRt me) :=
  PS.imp (ps_ret he) fun D σ H h => tS.st h fun τ x L1 ι1 u H1 w1 s1 r1 g1 => g1 ι1 H1 u Ext.refl w1 r1
theorem fg_name {i : Nat} {x : Str} (hN : X.N.Nodup) (hi : X.N[i]? = some x) (hx : Loc X.env.scope x) (hf : X.fn x = true ∨ X.env.scope.names.lookup x = some .local := by first | exact .inl rfl | exact .inr rfl | assumption) (hz : Z.ok i = true := by rfl) : FG Z X (.Name x pos) (gN i) :=
  PG.imp (pg_name hN hi hx hf) fun v σ H Q ⟨ι, L, τ, x, w, s, r, g⟩ => g.ok w (s.set i hz r)
theorem gs.asg {K : PySem.W.Frag} {r : R Sl} {ι : List Addr} {H : Hp} {σ : L2.St} {D : Ends} (h : gs K Z W r.nx ι H D) : gd K Z.f W0 (relS K Z) r ι H σ fun _ _ _ σ' H' => D.nx σ' H' := by
  cases r with
  | ok τ' L' => exact fun ι2 H2 σ2 e w s => h ι2 H2 σ2 e w s
  | ex => exact h.elim
  | no => exact h
/-- target = value -/
theorem fs_asg {tg : Expr} (he : FE Z X W e me) (hg : FG Z X tg g) (hs : swapsWithSole [tg] e pos.line X.env = pure false := by rfl) (hw : swappedStores [tg] e X.env = pure none := by rfl)
    (h1 : (assignEach [tg] X.env).map (·.2) = [assign tg X.env] := by rfl) : FS Z X W (.Assign [tg] e pos) (sAs me g) :=
  PS.imp (ps_asg he hg hs hw h1) fun D σ H h => tS.st h fun τ x L1 ι1 u H1 w1 s1 r1 g1 => ⟨ι1, L1, τ, x, w1, s1, r1, g1.asg⟩
/-- name = value -/
theorem fs_set {i : Nat} {x : Str} {pos' : Pos} (hN : X.N.Nodup) (hi : X.N[i]? = some x) (hx : Loc X.env.scope x) (he : FE Z X W e me) (hs : swapsWith e (some (.Name x pos')) pos.line X.env = pure false := by rfl) (hf : X.fn x = true ∨ X.env.scope.names.lookup x = some .local := by first | exact .inl rfl | exact .inr rfl | assumption) (hz : Z.ok i = true := by rfl) :
    FS Z X W (.Assign [.Name x pos'] e pos) (sAs me (gN i)) :=
  PS.imp (ps_set hN hi hx he hs hf) fun D σ H h => tS.st h fun τ x L1 ι1 u H1 w1 s1 r1 g1 => g1.nx w1 (s1.set i hz r1)
/-- items as they stand, or a list as it stands at each turn -/
inductive Src where
  | vals (xs : List PV) | at_ (n : Nat) | en (n : Nat)
/-- none: not told; some none: the end -/
def Src.get (s : Src) (L : LH) (i : Nat) : Option (Option PV) := match s with
  | .vals xs => some xs[i]?
  | .at_ n => match L[n]? with
    | some (.lst xs) => some xs[i]?
    | _ => none
  | .en n => match L[n]? with
    | some (.lst xs) => some (xs[i]?.map fun x => .tup [.int (i : Nat), x])
    | _ => none
def Src.len (s : Src) (L : LH) : Nat := match s with
  | .vals xs => xs.length
  | .at_ n => match L[n]? with
    | some (.lst xs) => xs.length
    | _ => 0
  | .en n => match L[n]? with
    | some (.lst xs) => xs.length
    | _ => 0
/-- J yields what s says, at any heap that grew from H -/
def Walks (K : PySem.W.Frag) (ga : Ga) (ι : List Addr) (H : Hp) (s : Src) (J : It) : Prop := ∀ ι2 L2 H2, Ext K ι H ι2 H2 → Wd K ga ι2 L2 H2 → ∀ i, (s.get L2 i = some none → J.stop i H2) ∧
  ∀ x, s.get L2 i = some (some x) → J.go i H2 ∧ ∀ v H3, J.yld i H2 v H3 → Ext K ι2 H2 ι2 H3 ∧ Wd K ga ι2 L2 H3 ∧ VR K ga ι2 H3 x v
theorem Walks.up {K : PySem.W.Frag} {ι ι' : List Addr} {H H' : Hp} {s : Src} {J : It} (h : Walks K Z.f ι H s J) (e : Ext K ι H ι' H') : Walks K Z.f ι' H' s J := fun ι2 L2 H2 e2 => h ι2 L2 H2 (e.trans e2)
abbrev MI := Sl → LH → R Src
def tI (K : PySem.W.Frag) (Z : Zs) (W : WX) (m : MI) : TI := fun σ H Rr => ∃ ι L τ, Wd K Z.f ι L H ∧ SR K Z ι H τ σ ∧ gd K Z.f W (fun ι H s J => Walks K Z.f ι H s J) (m τ L) ι H σ fun _ _ _ J H' => Rr J H'
abbrev FI (Z : Zs) (X : Cx) (W : WX) (tg e : Expr) (m : MI) : Prop := PI X tg e (tI X.K Z W m)
def loop (s : Src) (g : MG) (b : MS) : Nat → Nat → MS
  | 0, _, _, _ => .no
  | k + 1, i, τ, L => match s.get L i with
    | none => .no
    | some none => .nx τ L
    | some (some x) => match g x τ L with
      | .ok τ1 L1 => (match b τ1 L1 with
        | .nx τ2 L2 => loop s g b k (i + 1) τ2 L2
        | .ct τ2 L2 => loop s g b k (i + 1) τ2 L2
        | .bk τ2 L2 => .nx τ2 L2
        | r => r)
      | _ => .no
def sFor (m : MI) (g : MG) (b : MS) : MS := fun τ L => (m τ L).st τ fun s L1 => loop s g b (s.len L1 + 1) 0 τ L1
theorem fs_for {tg : Expr} {mi : MI} (hp : PassesOwn (model X.prog X.w) X.A X.env X.xe) (hc : X.calm = true) (hi : FI Z X W tg e mi) (hg : FG Z X tg g) (hb : FSs Z X W sts mb)
    (hs : ∀ x, foldedSetIterable e X.env x = pure x := by intro _; rfl) : FS Z X W (.For tg e sts [] pos) (sFor mi g mb) :=
  PS.imp (ps_for hp hc hi hg hb hs) fun D σ H h => by
    obtain ⟨ι, L, τ, w, s, g0⟩ := h
    refine ⟨ι, L, τ, w, s, gs.st (rel := fun ι H s J => Walks X.K Z.f ι H s J) g0 s fun sr L1 ι1 J H1 e1 w1 r1 g1 => ?_⟩
    refine ⟨fun i k σ H => ∃ ι L τ, Wd X.K Z.f ι L H ∧ SR X.K Z ι H τ σ ∧ Walks X.K Z.f ι H sr J ∧ gs X.K Z W (loop sr g mb k i τ L) ι H D, ⟨_, ι1, L1, τ, w1, s.up e1, r1, g1⟩, ?_⟩
    rintro i k σ H ⟨ι, L, τ, w, s, wk, g2⟩
    cases k with
    | zero => exact g2.elim
    | succ k =>
      unfold loop at g2
      cases hq : sr.get L i with
      | none => rw [hq] at g2; exact g2.elim
      | some o =>
        rw [hq] at g2
        cases o with
        | none => exact .inl ⟨(wk ι L H Ext.refl w i).1 hq, g2.nx w s⟩
        | some x =>
          obtain ⟨hgo, hy⟩ := (wk ι L H Ext.refl w i).2 x hq
          refine .inr ⟨hgo, fun σ' H' => ∃ ι L τ, Wd X.K Z.f ι L H' ∧ SR X.K Z ι H' τ σ' ∧ Walks X.K Z.f ι H' sr J ∧ gs X.K Z W (loop sr g mb k (i + 1) τ L) ι H' D, fun σ' H' q => ⟨k, Nat.lt_succ_self k, q⟩, fun v H3 yy => ?_⟩
          obtain ⟨e3, w3, r3⟩ := hy v H3 yy
          refine ⟨ι, L, τ, x, w3, s.up e3, r3, ?_⟩
          dsimp only at g2
          cases hg : g x τ L with
          | no => rw [hg] at g2; exact g2.elim
          | ex => rw [hg] at g2; exact g2.elim
          | ok τ1 L1 =>
            rw [hg] at g2
            intro ι4 H4 σ4 e4 w4 s4
            refine ⟨ι4, L1, τ1, w4, s4, ?_⟩
            have e34 := e3.trans e4
            dsimp only at g2
            cases hb : mb τ1 L1 with
            | nx τ2 L2 => rw [hb] at g2; exact fun ι5 H5 σ5 e5 w5 s5 => ⟨ι5, L2, τ2, w5, s5, wk.up (e34.trans e5), gs.ext g2 (e34.trans e5)⟩
            | ct τ2 L2 => rw [hb] at g2; exact fun ι5 H5 σ5 e5 w5 s5 => ⟨ι5, L2, τ2, w5, s5, wk.up (e34.trans e5), gs.ext g2 (e34.trans e5)⟩
            | bk τ2 L2 => rw [hb] at g2; exact fun ι5 H5 σ5 e5 w5 s5 => g2 ι5 H5 σ5 (e34.trans e5) w5 s5
            | rt x L2 => rw [hb] at g2; exact fun ι5 H5 σ5 e5 w5 s5 => g2 ι5 H5 σ5 (e34.trans e5) w5 s5
            | ex => rw [hb] at g2; exact fun ι5 H5 σ5 d l e5 w5 s5 => g2 ι5 H5 σ5 d l (e34.trans e5) w5 s5
            | no => rw [hb] at g2; exact g2.elim
end
end FL
namespace FL
open PySem PySem.Spec PyProof.Rows L2
abbrev MV := Sl → LH → R (List PV)
/-- a result that is a new list, not told of yet -/
def gv (K : PySem.W.Frag) (ga : Ga) (W : WX) (r : R (List PV)) (ι : List Addr) (H : Hp) (σ : L2.St) (Q : VK) : Prop := match r with
  | .ok xs L' => ∀ ι' H' a ys, Ext K ι H ι' H' → Wd K ga ι' L' H' → Fre H a → a ∉ ι' → H' a = some (.lst ys) → VRs K ga ι' H' xs ys → xs.length ≤ sizeLine → Q (.ref a) H'
  | .ex c fs L' => ∀ ι' H' d l, Ext K ι H ι' H' → Wd K ga ι' L' H' → XdAt H' d l → FRs K ga ι' H' fs l → W (.ref (ga c)) d σ H'
  | .no => False
def tV (K : PySem.W.Frag) (Z : Zs) (W : WX) (m : MV) : TE := fun σ H Q => ∃ ι L τ, Wd K Z.f ι L H ∧ SR K Z ι H τ σ ∧ gv K Z.f W (m τ L) ι H σ Q
abbrev FV (Z : Zs) (X : Cx) (W : WX) (e : Expr) (m : MV) : Prop := PE X e (tV X.K Z W m)
section
variable {K : PySem.W.Frag} {ga : Ga} {W : WX} {ι ι' : List Addr} {H H' : Hp} {σ : L2.St} {τ : Sl} {L : LH} {D : Ends} {Q : VK}
theorem gv.ext {r : R (List PV)} (h : gv K ga W r ι H σ Q) (e : Ext K ι H ι' H') (f : ∀ a, Fre H' a → Fre H a) : gv K ga W r ι' H' σ Q := by
  cases r with
  | ok x L' => exact fun ι2 H2 a ys e2 w n => h ι2 H2 a ys (e.trans e2) w (f a n)
  | ex c fs L' => exact fun ι2 H2 d l e2 w a b => h ι2 H2 d l (e.trans e2) w a b
  | no => exact h
end
/-- as a value: one object more -/
def eNew (m : MV) : ME := fun τ L => (m τ L).bind fun xs L1 => .ok (.obj L1.length) (L1 ++ [.lst xs])
/-- what a value's items are -/
def items (x : PV) (L : LH) : R (List PV) := match x with
  | .tup xs => .ok xs L
  | .rol xs => .ok xs L
  | .obj n => match L[n]? with
    | some (.lst xs) => .ok xs L
    | _ => .no
  | _ => .no
section
variable {Z : Zs} {X : Cx} {W : WX} {e a b c : Expr} {es : List Expr} {me : ME} {mv : MV} {ma : MA} {pos : Pos}
theorem fe_ofV (h : FV Z X W e mv) : FE Z X W e (eNew mv) := PE.imp h fun σ H Q ⟨ι, L, τ, w, s, g⟩ => by
  refine ⟨ι, L, τ, w, s, ?_⟩
  unfold eNew at g
  cases hq : mv τ L with
  | ok xs L1 =>
    rw [hq] at g
    intro ι1 H1 a ys e w1 n ni ha r z
    have ne : a ∉ ι1 := ni
    have wA := w1.adopt (o := .lst xs) ha ne ⟨ys, rfl, r⟩
    refine g _ _ (.ref a) (e.adopt n) wA ?_
    refine ⟨a, ?_, rfl⟩
    rw [← w1.len]
    simp
  | ex c fs L1 => rw [hq] at g; exact g
  | no => rw [hq] at g; exact g
theorem RoL.sq {K : PySem.W.Frag} {H : Hp} {a : Addr} {ys : List V} (h : RoL K H a ys) : SqL K H a ys := by
  rcases h with ⟨o, h⟩ | h
  · exact .inl (.inr ⟨o, h⟩)
  · exact .inr h
def vL (m : MA) : MV := fun τ L => (m τ L).bind fun xs L1 => if xs.length ≤ sizeLine then .ok xs L1 else .no
def eT (m : MA) : ME := fun τ L => (m τ L).bind fun xs L1 => if xs.length ≤ sizeLine then .ok (.tup xs) L1 else .no
theorem SqT.new {K : PySem.W.Frag} {H : Hp} {p : Addr} {ys : List V} : SqT K (upd H p (.tup ys)) p ys := .inl (.inl upd_same)
theorem fe_tup {x1} (h : FA Z X W es ma) : FE Z X W (.Tuple es x1 pos) (eT ma) := PE.imp (pe_tup h) fun σ H Q h => tM.bind h fun τ xs L1 ι1 us H1 w1 s1 r1 g1 => by
  split at g1
  · rename_i hz
    refine ⟨by rw [← r1.len]; exact hz, fun p hp => ?_⟩
    have e := Ext.new (K := X.K) (ι := ι1) (o := .tup us) hp
    exact g1 ι1 _ (.ref p) e (w1.new hp) ⟨p, us, rfl, SqT.new, r1.up e⟩
  · exact g1.elim
theorem fv_lst (h : FA Z X W es ma) : FV Z X W (.List es pos) (vL ma) := PE.imp (pe_lst h) fun σ H Q ⟨ι, L, τ, w, s, g⟩ => by
  refine ⟨ι, L, τ, w, s, ?_⟩
  unfold vL at g
  cases hq : ma τ L with
  | ok xs L1 =>
    rw [hq] at g
    intro ι1 H1 us e w1 r1
    unfold R.bind at g
    dsimp only at g
    split at g
    · rename_i hz
      refine ⟨by rw [← r1.len]; exact hz, fun p hp => ?_⟩
      have e2 := Ext.new (K := X.K) (ι := ι1) (o := .lst us) hp
      refine g ι1 _ p us (e.trans e2) (w1.new hp) ?_ (fun z => ?_) upd_same (r1.up e2) hz
      · by_cases hi : p ∈ ι
        · obtain ⟨⟨δ, rfl, _⟩, _⟩ := e
          obtain ⟨ho, q1, _⟩ := w1.some (List.mem_append_left _ hi)
          rw [hp] at q1; cases q1
        · exact e.fre hi (.of hp)
      · obtain ⟨ho, q1, _⟩ := w1.some z
        rw [hp] at q1; cases q1
    · exact g.elim
  | ex c fs L1 => rw [hq] at g; exact g
  | no => rw [hq] at g; exact g
end
/-- what raises is not told -/
def R.bind0 {α β : Type} : R α → (α → LH → R β) → R β
  | .ok a L, k => k a L
  | _, _ => .no
def wipeP (τ : Sl) : List Nat → Sl
  | [] => τ
  | v :: vs => (wipeP τ vs).set v none
def compL (s : Src) (g : MG) (t : MT) (m : ME) : Nat → Nat → List PV → Sl → LH → R (List PV)
  | 0, _, _, _, _ => .no
  | k + 1, i, acc, τ, L => match s.get L i with
    | none => .no
    | some none => if acc.length ≤ sizeLine then .ok acc L else .no
    | some (some x) => match g x τ L with
      | .ok τ1 _ => (t τ1 L).bind0 fun b L2 => if b = true then (m τ1 L2).bind0 fun y L3 => if acc.length < sizeLine then compL s g t m k (i + 1) (acc ++ [y]) τ L3 else .no else compL s g t m k (i + 1) acc τ L2
      | _ => .no
def vC (mi : MI) (g : MG) (t : MT) (m : ME) (own : List Nat) : MV := fun τ L => (mi τ L).bind fun s L1 => compL s g t m (s.len L1 + 1) 0 [] (wipeP τ own) L1
def tY : MT := fun _ L => .ok true L
/-- a target of a comprehension: only its own slots change -/
def tGo (K : PySem.W.Frag) (Z : Zs) (own : List Nat) (m : MG) : TG := fun v σ H Q => ∃ ι L τ x, Wd K Z.f ι L H ∧ SR K Z ι H τ σ ∧ VR K Z.f ι H x v ∧ (match m x τ L with
  | .ok τ' _ => ∀ σ', SR K Z ι H τ' σ' → wipe σ' own = wipe σ own → Q σ' H
  | _ => False)
def tGso (K : PySem.W.Frag) (Z : Zs) (own : List Nat) (m : MGs) : TGs := fun v σ H Q => ∃ ι L τ x, Wd K Z.f ι L H ∧ SR K Z ι H τ σ ∧ VRs K Z.f ι H x v ∧ (match m x τ L with
  | .ok τ' _ => ∀ σ', SR K Z ι H τ' σ' → wipe σ' own = wipe σ own → Q σ' H
  | _ => False)
abbrev FGo (Z : Zs) (X : Cx) (own : List Nat) (e : Expr) (g : MG) : Prop := PG X e (tGo X.K Z own g)
abbrev FGso (Z : Zs) (X : Cx) (own : List Nat) (e : List Expr) (g : MGs) : Prop := PGs X e (tGso X.K Z own g)
abbrev FTs (Z : Zs) (X : Cx) (W : WX) (es : List Expr) (m : MT) : Prop := PTs X es (tM X.K Z W relB m)
theorem PTs.imp {X : Cx} {e : List Expr} {t t' : TT} (h : PTs X e t) (q : ∀ σ H Q, t' σ H Q → t σ H Q) : PTs X e t' := ⟨fun pins s σ H Q I z => h.run pins s σ H Q I (q _ _ _ z)⟩
theorem wipe_set {σ : L2.St} {i : Nat} {o : Option V} : ∀ {vs : List Nat}, i ∈ vs → wipe (σ.set i o) vs = wipe σ vs
  | [], h => nomatch h
  | v :: vs, h => by
    unfold wipe
    by_cases hi : i ∈ vs
    · rw [wipe_set hi]
    · have e : i = v := by rcases List.mem_cons.mp h with h | h; exact h; exact absurd h hi
      subst e
      have k : ∀ (vs : List Nat) (σ : L2.St), i ∉ vs → (wipe (σ.set i o) vs).set i none = (wipe σ vs).set i none := by
        intro vs
        induction vs with
        | nil => intro σ _; simp [wipe]
        | cons u us ih =>
          intro σ hu
          have h1 : u ≠ i := fun z => hu (by rw [z]; exact List.mem_cons_self ..)
          have h2 : i ∉ us := fun z => hu (List.mem_cons_of_mem _ z)
          simp only [wipe]
          rw [List.set_comm _ _ h1, ih σ h2, List.set_comm _ _ h1]
      exact k vs σ hi
theorem wipe_wipe (σ : L2.St) (vs : List Nat) : wipe (wipe σ vs) vs = wipe σ vs := by
  have k : ∀ (us : List Nat), (∀ u ∈ us, u ∈ vs) → wipe (wipe σ us) vs = wipe σ vs := by
    intro us
    induction us with
    | nil => intro _; rfl
    | cons u us ih =>
      intro h
      show wipe ((wipe σ us).set u none) vs = _
      rw [wipe_set (h u (List.mem_cons_self ..)), ih fun x hx => h x (List.mem_cons_of_mem _ hx)]
  exact k vs fun _ h => h
theorem SR.wipe {K : PySem.W.Frag} {Z : Zs} {ι : List Addr} {H : Hp} {τ : Sl} {σ : L2.St} (s : SR K Z ι H τ σ) : ∀ vs, vs.all Z.ok = true → SR K Z ι H (wipeP τ vs) (L2.wipe σ vs)
  | [], _ => s
  | v :: vs, h => by
    have h2 : (Z.ok v && vs.all Z.ok) = true := h
    rw [Bool.and_eq_true] at h2
    exact (SR.wipe s vs h2.2).gone v h2.1
section
variable {Z : Zs} {X : Cx} {W : WX} {e a b c : Expr} {es : List Expr} {me : ME} {tc : MT} {g : MG} {gr : MGs} {own : List Nat} {pos : Pos}
theorem fts_nil : FTs Z X W [] tY := PTs.imp pts_nil fun σ H Q ⟨ι, L, τ, w, s, g⟩ => g.ok w rfl
theorem fgo_name {i : Nat} {x : Str} (hm : i ∈ own) (hN : X.N.Nodup) (hi : X.N[i]? = some x) (hx : Loc X.env.scope x) (hf : X.fn x = true ∨ X.env.scope.names.lookup x = some .local := by first | exact .inl rfl | exact .inr rfl | assumption) (hz : Z.ok i = true := by rfl) : FGo Z X own (.Name x pos) (gN i) :=
  PG.imp (pg_name hN hi hx hf) fun v σ H Q ⟨ι, L, τ, x, w, s, r, g⟩ => g _ (s.set i hz r) (wipe_set hm)
theorem fgo_nil : FGso Z X own [] gs0 := PGs.imp pgs_nil fun v σ H Q ⟨ι, L, τ, xs, w, s, r, g⟩ => by
  cases xs with
  | nil => exact ⟨r, g _ s rfl⟩
  | cons => exact g.elim
theorem fgo_cons (h1 : FGo Z X own e g) (h2 : FGso Z X own es gr) (hl : ∀ x τ L τ' L', g x τ L = .ok τ' L' → L' = L) (hs : (assignEach (e :: es) X.env).map (·.2) = assign e X.env :: (assignEach es X.env).map (·.2) := by rfl) : FGso Z X own (e :: es) (gs1 g gr) :=
  PGs.imp (pgs_cons h1 h2 hs) fun v σ H Q ⟨ι, L, τ, xs, w, s, r, q⟩ => by
    cases xs with
    | nil => exact q.elim
    | cons x xs =>
      obtain ⟨y, ys, rfl, r1, r2⟩ := r
      refine ⟨y, ys, rfl, ι, L, τ, x, w, s, r1, ?_⟩
      unfold gs1 at q
      dsimp only at q
      cases hg : g x τ L with
      | ok τ1 L1 =>
        rw [hg] at q
        obtain rfl := hl _ _ _ _ _ hg
        intro σ1 s1 e1
        refine ⟨ι, L1, τ1, xs, w, s1, r2, ?_⟩
        have q' : (match gr xs τ1 L1 with | .ok τ' _ => ∀ σ', SR X.K Z ι H τ' σ' → wipe σ' own = wipe σ own → Q σ' H | _ => False) := q
        cases hr : gr xs τ1 L1 with
        | ok τ2 L2 => rw [hr] at q'; exact fun σ2 s2 e2 => q' σ2 s2 (e2.trans e1)
        | ex => rw [hr] at q'; exact q'
        | no => rw [hr] at q'; exact q'
      | ex => rw [hg] at q; exact q.elim
      | no => rw [hg] at q; exact q.elim
theorem fgo_tup {k : Nat} {n : Nat} (hc : X.calm = true) (h : FGso Z X own es gr) (hn : (assignEach es X.env).length = n := by rfl) (hst : (assignEach es X.env).findIdx? (·.1) = none := by rfl) : FGo Z X own (.Tuple es k pos) (gT n gr) :=
  PG.imp (pg_tup hc h hn hst) fun v σ H Q ⟨ι, L, τ, x, w, s, r, g⟩ => by
    cases x with
    | tup xs =>
      obtain ⟨a, ys, rfl, h1, h2⟩ := r
      unfold gT at g
      dsimp only at g
      by_cases hl : xs.length = n
      · rw [if_pos hl] at g
        exact ⟨a, ys, rfl, h1, by rw [← h2.len]; exact hl, ι, L, τ, xs, w, s, h2, g⟩
      · rw [if_neg hl] at g
        exact g.elim
    | _ => exact g.elim
/-- the reading of a comprehension -/
theorem lc_read {K : PySem.W.Frag} {mi : MI} {σ : L2.St} {H : Hp} {Q : VK} {ι : List Addr} {L : LH} {τ : Sl} (w : Wd K Z.f ι L H) (s : SR K Z ι H τ σ) (hz : own.all Z.ok = true) (h : gv K Z.f W (vC mi g tc me own τ L) ι H σ Q) :
    tLc (tI K Z W mi) (tGo K Z own g) (tM K Z W0 relB tc) (tM K Z W0 (VR K Z.f) me) own σ H Q := by
  refine ⟨ι, L, τ, w, s, ?_⟩
  unfold vC at h
  cases hq : mi τ L with
  | no => rw [hq] at h; exact h
  | ex c fs L1 => rw [hq] at h; exact h
  | ok sr L1 =>
    rw [hq] at h
    have h : gv K Z.f W (compL sr g tc me (sr.len L1 + 1) 0 [] (wipeP τ own) L1) ι H σ Q := h
    intro ι1 H1 J e1 w1 wk D hD
    have hD0 : Fre H D := by
      by_cases hi : D ∈ ι
      · obtain ⟨⟨δ, rfl, _⟩, _⟩ := e1
        obtain ⟨ho, q1, _⟩ := w1.some (List.mem_append_left _ hi)
        rw [hD] at q1; cases q1
      · exact e1.fre hi (.of hD)
    have hDi : D ∉ ι1 := fun z => by
      obtain ⟨ho, q1, _⟩ := w1.some z
      rw [hD] at q1; cases q1
    have eD := Ext.new (K := K) (ι := ι1) (o := .lst []) hD
    have wkD := wk.up eD
    have sw := s.wipe own hz
    refine ⟨fun i m H' => ∃ ι2 L2 acc ys, Ext K ι1 H1 ι2 H' ∧ Wd K Z.f ι2 L2 H' ∧ SR K Z ι2 H' (wipeP τ own) (wipe σ own) ∧ D ∉ ι2 ∧ H' D = some (.lst ys) ∧ VRs K Z.f ι2 H' acc ys ∧ gv K Z.f W (compL sr g tc me m i acc (wipeP τ own) L2) ι H σ Q,
      ⟨_, ι1, L1, [], [], eD, w1.new hD, (sw.up e1).up eD, hDi, upd_same, by simp [VRs], h⟩, ?_⟩
    rintro i m H2 ⟨ι2, L2, acc, ys, e2, w2, s2, n2, d2, r2, g2⟩
    cases m with
    | zero => exact g2.elim
    | succ m =>
      unfold compL at g2
      cases hs : sr.get L2 i with
      | none => rw [hs] at g2; exact g2.elim
      | some o =>
        rw [hs] at g2
        cases o with
        | none =>
          refine .inl ⟨(wk ι2 L2 H2 e2 w2 i).1 hs, ?_⟩
          dsimp only at g2
          split at g2
          · rename_i hz
            exact g2 ι2 H2 D ys (e1.trans e2) w2 hD0 n2 d2 r2 hz
          · exact g2.elim
        | some x =>
          dsimp only at g2
          obtain ⟨hgo, hy⟩ := (wk ι2 L2 H2 e2 w2 i).2 x hs
          refine .inr ⟨hgo, fun H' => ∃ ι2 L2 acc ys, Ext K ι1 H1 ι2 H' ∧ Wd K Z.f ι2 L2 H' ∧ SR K Z ι2 H' (wipeP τ own) (wipe σ own) ∧ D ∉ ι2 ∧ H' D = some (.lst ys) ∧ VRs K Z.f ι2 H' acc ys ∧ gv K Z.f W (compL sr g tc me m (i + 1) acc (wipeP τ own) L2) ι H σ Q, fun H' q => ⟨m, Nat.lt_succ_self m, q⟩, fun v H3 yy => ?_⟩
          obtain ⟨e3, w3, r3⟩ := hy v H3 yy
          refine ⟨ι2, L2, wipeP τ own, x, w3, s2.up e3, r3, ?_⟩
          cases hg : g x (wipeP τ own) L2 with
          | no => rw [hg] at g2; exact g2.elim
          | ex => rw [hg] at g2; exact g2.elim
          | ok τ4 L4 =>
            rw [hg] at g2
            dsimp only at g2
            intro σ4 s4 z4
            refine ⟨z4.trans (wipe_wipe _ _), ι2, L2, τ4, w3, s4, ?_⟩
            cases ht : tc τ4 L2 with
            | no => rw [ht] at g2; exact g2.elim
            | ex => rw [ht] at g2; exact g2.elim
            | ok bv L5 =>
              rw [ht] at g2
              intro ι5 H5 bv' e5 w5 eb
              cases (show bv = bv' from eb)
              have g2 : gv K Z.f W (if bv = true then (me τ4 L5).bind0 fun y L3 => if acc.length < sizeLine then compL sr g tc me m (i + 1) (acc ++ [y]) (wipeP τ own) L3 else .no else compL sr g tc me m (i + 1) acc (wipeP τ own) L5) ι H σ Q := g2
              have e35 := e3.trans e5
              obtain ⟨d5, n5⟩ := e35.keep d2 n2
              cases bv with
              | false =>
                rw [if_neg Bool.false_ne_true] at g2 ⊢
                exact ⟨ι5, L5, acc, ys, e2.trans e35, w5, s2.up e35, n5, d5, r2.up e35, g2⟩
              | true =>
                rw [if_pos rfl] at g2 ⊢
                refine ⟨ι5, L5, τ4, w5, s4.up e5, ?_⟩
                cases hm : me τ4 L5 with
                | no => rw [hm] at g2; exact g2.elim
                | ex => rw [hm] at g2; exact g2.elim
                | ok y L6 =>
                  rw [hm] at g2
                  intro ι6 H6 yv e6 w6 ry
                  have g2 : gv K Z.f W (if acc.length < sizeLine then compL sr g tc me m (i + 1) (acc ++ [y]) (wipeP τ own) L6 else .no) ι H σ Q := g2
                  have e36 := e35.trans e6
                  obtain ⟨d6, n6⟩ := e36.keep d2 n2
                  have r6 := r2.up e36
                  split at g2
                  · rename_i hz
                    refine ⟨ys, d6, by rw [← r2.len]; exact hz, ?_⟩
                    have u6 := Up.tmp (K := K) (ι := ι6) (o := .lst (ys ++ [yv])) d6 True.intro
                    refine ⟨ι6, L6, acc ++ [y], ys ++ [yv], (e2.trans e36).tmp (.of hD) d6 True.intro, w6.tmp d6 True.intro n6, (s2.up e36).tmp d6 True.intro, n6, upd_same, (r6.upU u6).app ⟨yv, [], rfl, ry.upU u6, by simp [VRs]⟩, g2⟩
                  · exact g2.elim
/-- as a new list -/
theorem fv_lc {elt tg iter : Expr} {ifs : List Expr} {scope : Scope} {ow : List (Str × Nat)} {pos : Pos} {mi : MI} (hc : X.calm = true) (hN : X.N.Nodup) (hi : FI Z X W tg iter mi) (ok : BlkOk X.N X.env.scope scope ow)
    (hg : ∀ (s : Shared) (H : Hp) (C : Addr) (cl : List (Str × Addr)) (fp : List Addr), FGo Z (X.blk s H scope (compEnvC scope cl C X.env) fp) (ow.map (·.2)) tg g) (ht : ∀ (s : Shared) (H : Hp) (C : Addr) (cl : List (Str × Addr)) (fp : List Addr), FTs Z (X.blk s H scope (compEnvC scope cl C X.env) fp) W0 ifs tc)
    (he : ∀ (s : Shared) (H : Hp) (C : Addr) (cl : List (Str × Addr)) (fp : List Addr), FE Z (X.blk s H scope (compEnvC scope cl C X.env) fp) W0 elt me) (hs : ∀ x, foldedSetIterable iter X.env x = pure x := by intro _; rfl) (hz : (ow.map (·.2)).all Z.ok = true := by rfl) :
    FV Z X W (.ListComp elt [⟨tg, iter, ifs, 0⟩] scope pos) (vC mi g tc me (ow.map (·.2))) :=
  PE.imp (pe_lc hc hN hi ok hg ht he hs) fun σ H Q ⟨ι, L, τ, w, s, h⟩ => lc_read w s hz h
/-- name = [..] -/
theorem fs_setLc {i : Nat} {y : Str} {py : Pos} {elt tg iter : Expr} {ifs : List Expr} {scope : Scope} {ow : List (Str × Nat)} {pos spos : Pos} {mi : MI} (hc : X.calm = true) (hN : X.N.Nodup) (hy : X.N[i]? = some y) (hyl : X.env.scope.names.lookup y = some .local)
    (hsw : swapsWith (.ListComp elt [⟨tg, iter, ifs, 0⟩] scope pos) (some (.Name y py)) spos.line X.env = pure true) (hi : FI Z X W tg iter mi) (ok : BlkOk X.N X.env.scope scope ow)
    (hg : ∀ (s : Shared) (H : Hp) (C : Addr) (cl : List (Str × Addr)) (fp : List Addr), FGo Z (X.blk s H scope (compEnvC scope cl C X.env) fp) (ow.map (·.2)) tg g) (ht : ∀ (s : Shared) (H : Hp) (C : Addr) (cl : List (Str × Addr)) (fp : List Addr), FTs Z (X.blk s H scope (compEnvC scope cl C X.env) fp) W0 ifs tc)
    (he : ∀ (s : Shared) (H : Hp) (C : Addr) (cl : List (Str × Addr)) (fp : List Addr), FE Z (X.blk s H scope (compEnvC scope cl C X.env) fp) W0 elt me) (hs : ∀ x, foldedSetIterable iter X.env x = pure x := by intro _; rfl) (hz : (ow.map (·.2)).all Z.ok = true := by rfl) (hz2 : Z.ok i = true := by rfl) :
    FS Z X W (.Assign [.Name y py] (.ListComp elt [⟨tg, iter, ifs, 0⟩] scope pos) spos) (sAs (eNew (vC mi g tc me (ow.map (·.2)))) (gN i)) :=
  PS.imp (ps_setLc hc hN hy hyl hsw hi ok hg ht he hs) fun D σ H ⟨ι, L, τ, w, s, h⟩ => lc_read w s hz (by
    unfold sAs eNew at h
    cases hq : vC mi g tc me (ow.map (·.2)) τ L with
    | no => rw [hq] at h; exact h
    | ex c fs L1 => rw [hq] at h; exact fun ι' H' d l a b c e => h ι' H' σ d l a b (s.up a) c e
    | ok xs L1 =>
      rw [hq] at h
      intro ι1 H1 a ys e w1 n ni ha r z
      have wA := w1.adopt (o := .lst xs) ha ni ⟨ys, rfl, r⟩
      have eA : Ext X.K ι H (ι1 ++ [a]) H1 := e.adopt n
      refine h (ι1 ++ [a]) H1 (σ.set i (some (.ref a))) eA wA ((s.up eA).set i hz2 ⟨a, ?_, rfl⟩)
      rw [← w1.len]
      simp)
end
end FL
namespace FL
open PySem PySem.Spec PyProof.Rows L2
def startP (n : Nat) (xs : List PV) : Sl := xs.map some ++ List.replicate (n - xs.length) none
/-- p parameters, n slots -/
def fnB (p n : Nat) (m : MS) : Fn := fun xs L => if xs.length = p then (match m (startP n xs) L with
  | .nx _ L' => .ok .non L'
  | .rt v L' => .ok v L'
  | .ex c fs _ L' => .ex c fs L'
  | _ => .no) else .no
def spM (p : Nat) (K : PySem.W.Frag) (ga : Ga) (m : Fn) : Sp := fun vs H Q E => vs.length = p ∧ ∃ ι L xs, Wd K ga ι L H ∧ VRs K ga ι H xs vs ∧ gd K ga (fun c d _ H => E c d H) (VR K ga) (m xs L) ι H [] fun _ _ _ v H' => Q v H'
theorem VRs.start {K : PySem.W.Frag} {Z : Zs} {ι : List Addr} {H : Hp} {N : List Str} {xs : List PV} {vs : List V} (r : VRs K Z.f ι H xs vs) (hz : Z.gh = []) : SR K Z ι H (startP N.length xs) (L2.start N vs) := by
  have e := r.len
  refine ⟨?_, fun i x q => ?_, fun g hg => by rw [hz] at hg; cases hg⟩
  · unfold startP L2.start
    rw [List.length_append, List.length_append, List.length_map, List.length_map, List.length_replicate, List.length_replicate, e]
  · unfold startP at q
    unfold L2.start
    by_cases hi : i < xs.length
    · rw [List.getElem?_append_left (by simpa using hi), List.getElem?_map] at q
      cases hx : xs[i]? with
      | none => rw [hx] at q; cases q
      | some y =>
        rw [hx] at q
        have e1 : y = x := by simpa using q
        subst e1
        obtain ⟨v, h1, h2⟩ := r.get hx
        refine ⟨v, ?_, h2⟩
        rw [List.getElem?_append_left (by simpa using (List.getElem?_eq_some_iff.mp h1).1), List.getElem?_map, h1]
        rfl
    · rw [List.getElem?_append_right (by simpa using Nat.le_of_not_lt hi)] at q
      rw [List.getElem?_replicate] at q
      split at q <;> cases q
section
variable {P : Program} {w : World} {K : PySem.W.Frag} {mg : Str → Option Value} {base : Heap} {ga : Ga} {x qual : Str} {params : Arguments} {body : List Stmt} {scope : Scope} {dvs : List V} {kws : List (Str × V)} {f : Addr} {fd : FuncData} {N ps : List Str} {k : Nat} {m : MS}
abbrev Zo (ga : Ga) : Zs := ⟨ga, []⟩
abbrev WE (E : XK) : WX := fun c d _ H => E c d H
abbrev FnM (P : Program) (w : World) (K : PySem.W.Frag) (mg : Str → Option Value) (base : Heap) (ga : Ga) (k : Nat) (f : Addr) (fd : FuncData) (ps : List Str) (m : Fn) : Prop := FnG P w K mg base (L2.CX P w) k f fd ps (spM ps.length K ga m)
theorem fn_ok (F : FunD K x qual params body scope dvs kws f fd) (S : FnScope N ps scope)
    (hb : ∀ (cdv : Value) (A : Around) (outer : List Env) (s : Shared) (H : Hp) (E : XK), A.guards = some [] → Room k (A.deeper (envOfC qual scope s.heap.objs.size f cdv)) → FSs (Zo ga) (cxOf (L2.CX P w) P w K mg base N qual scope f cdv A outer s H E) (WE E) body m) :
    FnM P w K mg base ga (k + 1) f fd ps (fnB ps.length N.length m) := by
  refine F.okG S (fun vs H Q E h => h.1) (fun cdv A outer s H vs Q E hg hr h => ?_)
  obtain ⟨hl, ι, L, xs, wd, r, g⟩ := h
  refine ⟨_, hb cdv A outer s H E hg hr, ι, L, startP N.length xs, wd, VRs.start (Z := Zo ga) r rfl, ?_⟩
  unfold fnB at g
  rw [if_pos (by rw [r.len]; exact hl)] at g
  cases hm : m (startP N.length xs) L with
  | nx τ' L' => rw [hm] at g; exact fun ι2 H2 σ2 e w s => g ι2 H2 .non e w (by simp [VR])
  | rt v L' => rw [hm] at g; exact g
  | ex c fs τ' L' => rw [hm] at g; exact fun ι2 H2 σ2 d l e w s a b => g ι2 H2 d l e w a b
  | bk => rw [hm] at g; exact g.elim
  | ct => rw [hm] at g; exact g.elim
  | no => rw [hm] at g; exact g.elim
end
def Tk (X : Cx) (W : WX) : Prop := ∀ (pins : List (Addr × Obj)) (σ : L2.St) (H : Hp) (s : Shared) (E : XK) (e : Value) (s' : Shared), Inv X pins σ H s → (∀ cls d H', E cls d H' → W cls d σ H') → L2.CX X.prog X.w X.stack H s E e s' → X.xe e s'
theorem tk_of {X : Cx} {W : WX} (t : Takes X W) : Tk X W := fun pins σ H s E e s' I h c => t e s' (XE.of_call I h c)
theorem tk_0 {X : Cx} : Tk X W0 := fun pins σ H s E e s' I h c => by
  obtain ⟨a, B, H', cls, d, _, _, _, _, _, _, _, q⟩ := c
  exact (h cls d H' q).elim
section
variable {X : Cx} {Z : Zs} {W : WX} {k : Nat} {f C : Addr} {fd : FuncData} {ps : List Str} {m : Fn} {x : Str} {p pos apos : Pos} {e o : Expr} {es : List Expr} {ma : MA} {me : ME}
/-- the wish for a mirror's result, as a callee has it -/
theorem gd.call {K : PySem.W.Frag} {ga : Ga} {r : R PV} {ι : List Addr} {H : Hp} {σ : L2.St} {P : PV → LH → List Addr → V → Hp → Prop} (g : gd K ga W (VR K ga) r ι H σ P) : gd K ga (fun c d _ H => W c d σ H) (VR K ga) r ι H [] P := g
/-- how arguments come to the parameters: by values, and by the mirror's values -/
structure BindF (K : PySem.W.Frag) (ga : Ga) (fd : FuncData) (ps : List Str) (n : Nat) (ks : List Str) (gP : List PV → List PV → List PV) : Prop where
  ex : ∃ g gV, KBn K fd ps n ks g gV ∧ ∀ ι H xs zs vs us, VRs K ga ι H xs vs → VRs K ga ι H zs us → VRs K ga ι H (gP xs zs) (gV vs us)
/-- arguments by values, positional only -/
theorem bf_pos {K : PySem.W.Frag} {ga : Ga} {fd : FuncData} {ps : List Str} {n : Nat} (hb : Binds K fd ps []) (hn : ps.length = n) : BindF K ga fd ps n [] (fun xs _ => xs) :=
  ⟨fun us _ => us, fun vs _ => vs, ⟨fun s us ws hk hl _ => by
    have z := hb s us hk (by rw [List.append_nil, hl, hn])
    rw [List.append_nil] at z
    exact z, fun r _ => r⟩, fun ι H xs zs vs us r _ => r⟩
/-- a def as its callers know it: n values, the rest by defaults -/
structure Def (X : Cx) (ga : Ga) (f : Addr) (n : Nat) (m : Fn) : Prop where
  ex : ∃ (k : Nat) (fd : FuncData) (ps : List Str) (gP : List PV → List PV → List PV) (m0 : Fn), FnM X.prog X.w X.K X.mg X.base ga k f fd ps m0 ∧ Room k X.A ∧ BindF X.K ga fd ps n [] gP ∧ (∀ xs L, xs.length = n → m xs L = m0 (gP xs []) L) ∧ ∀ xs L, xs.length ≠ ps.length → m0 xs L = .no
  gd : X.A.guards = some []
  kp : PySem.W.keepIn X.K (.ref f) = true
  len : ∀ xs L, xs.length ≠ n → m xs L = .no
theorem Def.run {n : Nat} {pins : List (Addr × Obj)} {σ : L2.St} {H : Hp} {s : Shared} {Q : VK} {us : List Value} {vs : List V} {ι : List Addr} {L : LH} {xs : List PV} (F : Def X Z.f f n m) (tk : Tk X W)
    (I : Inv X pins σ H s) (r : Vals vs us) (wd : Wd X.K Z.f ι L H) (rx : VRs X.K Z.f ι H xs vs) (g : FL.gd X.K Z.f W (VR X.K Z.f) (m xs L) ι H σ fun _ _ _ v H' => Q v H') : wpAny (model X.prog X.w) X.A (call (.ref f) us) (EP X pins σ Q) X.xe s := by
  obtain ⟨⟨k, fd, ps, gP, m0, F1, hr, ⟨gv, gV, hb, hP⟩, hm, hl0⟩, hgd, hk, hl⟩ := F
  have hx : xs.length = n := by
    by_cases h : xs.length = n
    · exact h
    · rw [hl xs L h] at g; exact g.elim
  rw [hm xs L hx] at g
  have rall := hP ι H xs [] vs [] rx rfl
  have hlen : (gV vs []).length = ps.length := by
    rw [← rall.len]
    by_cases h : (gP xs []).length = ps.length
    · exact h
    · rw [hl0 _ _ h] at g; exact g.elim
  have hsp : spM ps.length X.K Z.f m0 (gV vs []) H Q (fun c d H => W c d σ H) := ⟨hlen, ι, L, _, wd, rall, g⟩
  have hu : us.length = n := r.length ▸ (rx.len ▸ hx)
  have hb' := hb.to s us [] I.kIn hu rfl
  refine wpAny_call (codeAny_mono (F1.run X.A X.stack s H ⟨us, []⟩ _ _ Q _ hgd hr I.env0 hb' (hb.rel r .nil) hsp) fun r s' hq => ?_)
  match r, hq with
  | .error e, hq => exact tk pins σ H s _ e s' I (fun _ _ _ z => z) hq
  | .ok (.ret u), hq => exact I.after hq
  | .ok .next, hq => exact hq.elim
  | .ok .brk, hq => exact hq.elim
  | .ok .cont, hq => exact hq.elim
/-- f(e, ..) -/
theorem fe_call {n : Nat} (F : Def X Z.f f n m) (tk : Tk X W) (hg : Gl X x) (hm : X.mg x = some (.ref f)) (ha : FA Z X W (e :: es) ma)
    (hdb : (x == ("__debug__" : Str)) = false := by decide) (he : starEach (e :: es) X.env = (false, eval e X.env) :: starEach es X.env := by rfl) (hpl : (backTo pos (starEach es X.env)).any (·.1) = false := by rfl) :
    FE Z X W (.Call (.Name x p) (e :: es) [] pos) (eF m ma) := by
  refine ⟨fun pins s σ H Q I h => wpAny_Call_Name_kw (ld_glob I hg hm (PySem.W.callWith_K (h₀ := X.base) I.ok.mod.kin F.kp (thn (ha.run pos pins s σ H (fun vs H1 => ∃ ι1 L1 xs, Wd X.K Z.f ι1 L1 H1 ∧ VRs X.K Z.f ι1 H1 xs vs ∧ gd X.K Z.f W (VR X.K Z.f) (m xs L1) ι1 H1 σ fun _ _ _ v H' => Q v H') I
    (tM.bind h fun τ xs L1 ι1 vs H1 w1 s1 r1 g1 => ⟨ι1, L1, xs, w1, r1, g1⟩)) fun us s1 ⟨vs, H1, I1, r, ι1, L1, xs, w1, r1, g1⟩ => ⟨I1.kIn, F.run tk I1 r w1 r1 g1⟩) he hpl) hdb)⟩
end
end FL
namespace FL
open PySem PySem.Spec PyProof.Rows L2
def insOf (x : PV) (L : LH) : Option (Nat × Str × List (Str × PV)) := match x with
  | .obj n => match L[n]? with
    | some (.ins C fs) => some (n, C, fs)
    | _ => none
  | _ => none
/-- an instance with slots -/
def sliOf (x : PV) (L : LH) : Option (Nat × Str × List (Option PV)) := match x with
  | .obj n => match L[n]? with
    | some (.sli C vs) => some (n, C, vs)
    | _ => none
  | _ => none
section
variable {K : PySem.W.Frag} {ga : Ga} {ι : List Addr} {H : Hp} {L : LH}
theorem sliOf_at {x : PV} {v : V} {n : Nat} {C : Str} {vs : List (Option PV)} (w : Wd K ga ι L H) (r : VR K ga ι H x v) (h : sliOf x L = Option.some (n, C, vs)) :
    x = .obj n ∧ L[n]? = Option.some (.sli C vs) ∧ ∃ a dx ws, v = .ref a ∧ ι[n]? = Option.some a ∧ H a = Option.some (SlX.SlO a (ga C) dx ws) ∧ H dx = Option.some (.xd []) ∧ ORs K ga ι H vs ws := by
  unfold sliOf at h
  split at h
  · rename_i n'
    split at h
    · rename_i C' fs' hl
      cases h
      obtain ⟨a, h1, rfl⟩ := r
      obtain ⟨ho, q1, dx, ws, rfl, q2, q3⟩ := w.at_ _ a _ h1 hl
      exact ⟨rfl, hl, a, dx, ws, rfl, h1, q1, q2, q3⟩
    · cases h
  · cases h
theorem FRs.some : ∀ {fs : List (Str × PV)} {l : List (Str × V)} {f : Str} {x : PV}, FRs K ga ι H fs l → fs.lookup f = Option.some x → ∃ v, l.lookup f = Option.some v ∧ VR K ga ι H x v
  | [], _, _, _, _, e => by cases e
  | (g, y) :: fs, _, f, x, h, e => by
    obtain ⟨v, r, rfl, h1, h2⟩ := h
    simp only [List.lookup_cons] at e ⊢
    cases q : f == g with
    | true => rw [q] at e; cases e; exact ⟨v, rfl, h1⟩
    | false => rw [q] at e; exact FRs.some h2 e
theorem FRs.none : ∀ {fs : List (Str × PV)} {l : List (Str × V)} {f : Str}, FRs K ga ι H fs l → fs.lookup f = Option.none → l.lookup f = Option.none
  | [], _, _, h, _ => by cases h; rfl
  | (g, y) :: fs, _, f, h, e => by
    obtain ⟨v, r, rfl, h1, h2⟩ := h
    simp only [List.lookup_cons] at e ⊢
    cases q : f == g with
    | true => rw [q] at e; cases e
    | false => rw [q] at e; exact FRs.none h2 e
theorem FRs.len : ∀ {fs : List (Str × PV)} {l : List (Str × V)}, FRs K ga ι H fs l → fs.length = l.length
  | [], _, h => by cases h; rfl
  | x :: xs, _, h => by obtain ⟨v, r, rfl, _, h2⟩ := h; simp [FRs.len h2]
def putP (f : Str) (v : PV) : List (Str × PV) → List (Str × PV)
  | [] => [(f, v)]
  | (g, x) :: r => if g = f then (g, v) :: r else (g, x) :: putP f v r
theorem FRs.put {f : Str} {x : PV} {v : V} (hx : VR K ga ι H x v) : ∀ {fs : List (Str × PV)} {l : List (Str × V)}, FRs K ga ι H fs l → FRs K ga ι H (putP f x fs) (putF f v l)
  | [], _, h => by cases h; exact ⟨v, [], rfl, hx, rfl⟩
  | (g, y) :: fs, _, h => by
    obtain ⟨u, r, rfl, h1, h2⟩ := h
    unfold putP putF
    by_cases hg : g = f
    · rw [if_pos hg, if_pos hg]; exact ⟨v, r, rfl, hx, h2⟩
    · rw [if_neg hg, if_neg hg]; exact ⟨u, _, rfl, h1, FRs.put hx h2⟩
theorem insOf_at {x : PV} {v : V} {n : Nat} {C : Str} {fs : List (Str × PV)} (w : Wd K ga ι L H) (r : VR K ga ι H x v) (h : insOf x L = Option.some (n, C, fs)) :
    x = .obj n ∧ L[n]? = Option.some (.ins C fs) ∧ ∃ a dx l, v = .ref a ∧ ι[n]? = Option.some a ∧ H a = Option.some (.ins (ga C) dx l) ∧ FRs K ga ι H fs l := by
  unfold insOf at h
  split at h
  · rename_i n'
    split at h
    · rename_i C' fs' hl
      cases h
      obtain ⟨a, h1, rfl⟩ := r
      obtain ⟨ho, q1, dx, l, rfl, q2⟩ := w.at_ _ a _ h1 hl
      exact ⟨rfl, hl, a, dx, l, rfl, h1, q1, q2⟩
    · cases h
  · cases h
end
/-- what may not raise -/
def R.noex {α : Type} : R α → R α
  | .ex _ _ _ => .no
  | r => r
/-- cs: the classes whose instances keep f; ps: those that have a property f -/
def eAt (f : Str) (cs : List Str) (ps : List (Str × Fn)) (o : ME) : ME := fun τ L => (o τ L).bind fun x L1 => match insOf x L1 with
  | some (_, C, fs) => if cs.contains C then (match fs.lookup f with | some v => .ok v L1 | none => .no) else (match ps.lookup C with | some m => (m [x] L1).noex | none => .no)
  | none => match sliOf x L1 with
    | some (_, C, _) => (match ps.lookup C with | some m => (m [x] L1).noex | none => .no)
    | none => .no
/-- what of the text a class must have, with slots or not -/
structure PCl (K : PySem.W.Frag) (C : Addr) : Prop where
  pg : PySem.W.plainGet K C Str.empty = true
  ic : PySem.W.isClsIn K C = true
theorem PCl.get {K : PySem.W.Frag} {C : Addr} (c : PCl K C) (f : Str) : PySem.W.plainGet K C f = true := c.pg
theorem PCl.of {K : PySem.W.Frag} {C : Addr} (c : Cls K C) : PCl K C := ⟨c.pg, by
  obtain ⟨cd, hc, _⟩ := PySem.W.any_some c.hd
  unfold PySem.W.isClsIn
  rw [hc]
  rfl⟩
theorem PCl.ofS {K : PySem.W.Frag} {C : Addr} (c : SlX.SCls K C) : PCl K C := ⟨c.pg, c.ic⟩
structure Prp (X : Cx) (ga : Ga) (C : Str) (f : Str) (m : Fn) : Prop where
  cl : PCl X.K (ga C)
  ex : ∃ (p g : Addr) (k : Nat) (fd : FuncData) (ps : List Str), PropOf X.K (ga C) f p g ∧ FnM X.prog X.w X.K X.mg X.base ga k g fd ps m ∧ Room (k + 1) X.A ∧ Binds X.K fd ps [] ∧ ps.length = 1
  gd : X.A.guards = some []
/-- a has the class at C, its own dict has no mn -/
def HasI (H : Hp) (a C : Addr) (mn : Str) : Prop := (∃ dx l, H a = some (.ins C dx l) ∧ l.lookup mn = none) ∨ ∃ dx ws, SlX.Slt H a C dx ws
theorem HasI.inst {X : Cx} {pins : List (Addr × Obj)} {σ : L2.St} {H : Hp} {s : Shared} {a C : Addr} {mn : Str} (h : HasI H a C mn) (I : Inv X pins σ H s) : ∃ ox od, PySem.W.InstAt s.heap a ox C (some od) ∧ PySem.W.lookIn mn od = some none := by
  rcases h with ⟨dx, l, e, hl⟩ | ⟨dx, ws, h⟩
  · obtain ⟨mA, O, r, _, _, _⟩ := ins_get I.hok e
    obtain ⟨od, J, k⟩ := O.look
    have hn : mA mn = none := RelO.none_of (by rw [← hl]; exact r mn)
    exact ⟨_, od, J, by rw [k, hn]⟩
  · obtain ⟨sl, od, _, J, k⟩ := SlX.slt_inst I h
    exact ⟨_, od, J, k mn⟩
theorem getmethI_ok {X : Cx} {pins : List (Addr × Obj)} {σ : L2.St} {H : Hp} {s : Shared} {a C g : Addr} {mn : Str} {A : Around} {E : Value → Shared → Prop} {pl : Sem Bool} {Q : Value × List Value → Shared → Prop} (I : Inv X pins σ H s) (h : HasI H a C mn) (c : PCl X.K C) (k : Meth X.K C mn g) (q : Q (.ref g, [.ref a]) s) :
    wpAny (model X.prog X.w) A (getMethod (.ref a) mn pl) Q E s := by
  obtain ⟨ox, od, J, hl⟩ := h.inst I
  refine PySem.W.method_fn I.kIn J (PySem.W.plainGet_of (c.get mn)).1 (PySem.W.plainGet_of (c.get mn)).2 k.at_ (beq_iff_eq.mp k.fn) ?_ q
  show (PySem.W.lookIn mn od).map (·.isSome) = some false
  rw [hl]
  rfl
section
variable {X : Cx} {Z : Zs} {W : WX} {f : Str} {cs : List Str} {ps : List (Str × Fn)} {e o : Expr} {me mo : ME} {pos : Pos} {es : List Expr} {ma : MA}
theorem Prp.run {C : Str} {m : Fn} {pins : List (Addr × Obj)} {σ : L2.St} {H : Hp} {s : Shared} {Q : VK} {b : Bool} {E' : Value → Shared → Prop} {a : Addr} {ι : List Addr} {L : LH} {x : PV} (hp : Prp X Z.f C f m) (I : Inv X pins σ H s) (J0 : ∃ ox od, PySem.W.InstAt s.heap a ox (Z.f C) (some od))
    (w : Wd X.K Z.f ι L H) (r : VR X.K Z.f ι H x (.ref a)) (g : FL.gd X.K Z.f W (VR X.K Z.f) (m [x] L).noex ι H σ fun _ _ _ v H' => Q v H') : wpAny (model X.prog X.w) X.A (getAttr (.ref a) f b) (EP X pins σ Q) E' s := by
  obtain ⟨c, ⟨p, gf, k, fd, ps, hpo, F, hr, hb, hn⟩, hgd⟩ := hp
  obtain ⟨ox, od, J⟩ := J0
  obtain ⟨rest, hrec⟩ := hpo.rec_
  have I1 := I.tok (s.toks + 1)
  have hc : (PySem.W.clsIn X.K (Z.f C)).isSome = true := c.ic
  refine PySem.W.get_bind I.kIn J (PySem.W.plainGet_of (c.get f)).1 (PySem.W.findObj_data hc hpo.at_ hpo.get hpo.tak) (PySem.W.plainGet_of (c.get f)).2 (wpAny_call (PySem.W.prop_get (s := { s with toks := s.toks + 1 }) I.kIn hrec ?_))
  have hsp : spM ps.length X.K Z.f m [.ref a] H Q (fun _ _ _ => False) := by
    refine ⟨hn.symm, ι, L, [x], w, ⟨.ref a, [], rfl, r, rfl⟩, ?_⟩
    cases hm : m [x] L with
    | ok v L' => rw [hm] at g; exact g
    | ex => rw [hm] at g; exact g.elim
    | no => rw [hm] at g; exact g.elim
  have hb' := hb { s with toks := s.toks + 1 } [.ref a] I1.kIn (by rw [List.append_nil]; exact hn.symm)
  rw [List.append_nil] at hb'
  refine codeAny_mono (F.run X.A.in1 X.stack { s with toks := s.toks + 1 } H ⟨[.ref a], []⟩ [.ref a] [.ref a] Q _ hgd hr.in1 I1.env0.in1 hb' (.cons rfl .nil) hsp) fun r s' hq => ?_
  cases r with
  | error er =>
    obtain ⟨_, _, _, _, _, _, _, _, _, _, _, _, q⟩ := hq
    exact q.elim
  | ok fl =>
    cases fl with
    | ret u =>
      obtain ⟨v, H', I3, rv, q3⟩ := I1.after hq
      show wpAny _ _ (handedOut u) _ _ _
      rw [PySem.W.handedOut_of (handed_of rv)]
      exact wpAny_pure ⟨v, H', I3, rv, q3⟩
    | next => exact False.elim hq
    | brk => exact False.elim hq
    | cont => exact False.elim hq
theorem fe_at (hc : ∀ C ∈ cs, Cls X.K (Z.f C) ∧ NoAttr X.K (Z.f C) f) (hp : ∀ C m, ps.lookup C = some m → Prp X Z.f C f m) (he : FE Z X W e me) (hb : attributeBase e f X.env (eval e X.env) = eval e X.env) : FE Z X W (.Attribute e f pos) (eAt f cs ps me) := by
  refine ⟨fun pins s σ H Q I h => ?_⟩
  refine attr_of hb (thn (he.run pins s σ H (fun v H1 => ∃ ι1 L1 x, Wd X.K Z.f ι1 L1 H1 ∧ VR X.K Z.f ι1 H1 x v ∧ gd X.K Z.f W (VR X.K Z.f) (match insOf x L1 with
    | some (_, C, fs) => if cs.contains C then (match fs.lookup f with | some v => .ok v L1 | none => .no) else (match ps.lookup C with | some m => (m [x] L1).noex | none => .no)
    | none => match sliOf x L1 with
      | some (_, C, _) => (match ps.lookup C with | some m => (m [x] L1).noex | none => .no)
      | none => .no) ι1 H1 σ fun _ _ _ v H' => Q v H') I (tM.bind h fun τ x L1 ι1 u H1 w1 s1 r1 g1 => ⟨ι1, L1, x, w1, r1, g1⟩)) fun u s1 ⟨v, H1, I1, rx, ι1, L1, x, w1, r1, g1⟩ => ?_)
  cases hi : insOf x L1 with
  | none =>
    rw [hi] at g1
    dsimp only at g1
    cases hs : sliOf x L1 with
    | none => rw [hs] at g1; exact g1.elim
    | some q =>
      obtain ⟨n, C, vs⟩ := q
      rw [hs] at g1
      dsimp only at g1
      obtain ⟨rfl, hl, a, dx, ws, rfl, hn, ea, ed, rf⟩ := sliOf_at w1 r1 hs
      obtain rfl : u = Value.ref a := rx
      cases hf : ps.lookup C with
      | none => rw [hf] at g1; exact g1.elim
      | some m =>
        rw [hf] at g1
        obtain ⟨ox, od, J, _⟩ := HasI.inst (mn := f) (.inr ⟨dx, ws, .inr ⟨ea, ed⟩⟩) I1
        exact (hp C m hf).run (x := .obj n) I1 ⟨ox, od, J⟩ w1 ⟨a, hn, rfl⟩ g1
  | some q =>
    obtain ⟨n, C, fs⟩ := q
    rw [hi] at g1
    dsimp only at g1
    obtain ⟨rfl, hl, a, dx, l, rfl, hn, ea, rf⟩ := insOf_at w1 r1 hi
    obtain rfl : u = Value.ref a := rx
    by_cases hcc : cs.contains C = true
    · rw [if_pos hcc] at g1
      obtain ⟨c, na⟩ := hc C (by simpa using hcc)
      cases hf : fs.lookup f with
      | none => rw [hf] at g1; exact g1.elim
      | some y =>
        rw [hf] at g1
        obtain ⟨v, h1, h2⟩ := rf.some hf
        refine getattr_ok I1 ea c na h1 fun u s2 I2 ru => ?_
        exact ⟨v, H1, I2, ru, g1.ok w1 h2⟩
    · rw [if_neg hcc] at g1
      cases hf : ps.lookup C with
      | none => rw [hf] at g1; exact g1.elim
      | some m =>
        rw [hf] at g1
        obtain ⟨mA, O, _, _, _, _⟩ := ins_get I1.hok ea
        obtain ⟨od, J, _⟩ := O.look
        exact (hp C m hf).run (x := .obj n) I1 ⟨_, od, J⟩ w1 ⟨a, hn, rfl⟩ g1
structure Mt (X : Cx) (ga : Ga) (C : Str) (mn : Str) (m : Fn) : Prop where
  cl : PCl X.K (ga C)
  ex : ∃ (f : Addr) (n : Nat), Meth X.K (ga C) mn f ∧ Def X ga f n m
def mFind (mn : Str) (ms : List (Str × Fn)) (x : PV) (L : LH) : Option Fn := match insOf x L with
  | some (_, C, fs) => (match fs.lookup mn with
    | none => ms.lookup C
    | some _ => none)
  | none => none
def mFindS (mn : Str) (ms : List (Str × Fn)) (x : PV) (L : LH) : Option Fn := match mFind mn ms x L with
  | some m => some m
  | none => (match sliOf x L with
    | some (_, C, _) => ms.lookup C
    | none => none)
def eMe (mn : Str) (ms : List (Str × Fn)) (o : ME) (ma : MA) : ME := fun τ L => (o τ L).bind fun x L1 => match mFindS mn ms x L1 with
  | some m => (ma τ L1).bind fun xs L2 => m (x :: xs) L2
  | none => .no
theorem mFind_at {mn : Str} {ms : List (Str × Fn)} (hm : ∀ C m, ms.lookup C = some m → Mt X Z.f C mn m) {x : PV} {L : LH} {ι : List Addr} {H : Hp} {v : V} {m : Fn} (w : Wd X.K Z.f ι L H) (r : VR X.K Z.f ι H x v) (h : mFind mn ms x L = some m) :
    ∃ C a dx l, v = .ref a ∧ H a = some (.ins (Z.f C) dx l) ∧ l.lookup mn = none ∧ Mt X Z.f C mn m := by
  unfold mFind at h
  split at h
  · rename_i n C fs hi
    obtain ⟨rfl, hl, a, dx, l, rfl, hn, ea, rf⟩ := insOf_at w r hi
    split at h
    · rename_i hf
      exact ⟨C, a, dx, l, rfl, ea, rf.none hf, hm C m h⟩
    · cases h
  · cases h
theorem mFindS_at {mn : Str} {ms : List (Str × Fn)} (hm : ∀ C m, ms.lookup C = some m → Mt X Z.f C mn m) {x : PV} {L : LH} {ι : List Addr} {H : Hp} {v : V} {m : Fn} (w : Wd X.K Z.f ι L H) (r : VR X.K Z.f ι H x v) (h : mFindS mn ms x L = some m) :
    ∃ C a, v = .ref a ∧ HasI H a (Z.f C) mn ∧ Mt X Z.f C mn m := by
  unfold mFindS at h
  split at h
  · rename_i m' hf
    cases h
    obtain ⟨C, a, dx, l, rfl, ea, ln, t⟩ := mFind_at hm w r hf
    exact ⟨C, a, rfl, .inl ⟨dx, l, ea, ln⟩, t⟩
  · split at h
    · rename_i n C vs hs
      obtain ⟨rfl, hl, a, dx, ws, rfl, hn, ea, ed, rf⟩ := sliOf_at w r hs
      exact ⟨C, a, rfl, .inr ⟨dx, ws, .inr ⟨ea, ed⟩⟩, hm C m h⟩
    · cases h
theorem fe_me {mn : Str} {ms : List (Str × Fn)} {apos : Pos} {pl : Sem Bool} {ea : Expr} (hm : ∀ C m, ms.lookup C = some m → Mt X Z.f C mn m) (tk : Tk X W) (he : FE Z X W o mo) (ha : FA Z X W (ea :: es) ma)
    (hst : starEach (ea :: es) X.env = (false, eval ea X.env) :: starEach es X.env := by rfl) (hpl : (backTo pos (starEach es X.env)).any (·.1) = false := by rfl)
    (ht : eval (.Call (.Attribute o mn apos) (ea :: es) [] pos) X.env = (do
      let ov ← eval o X.env
      standAt apos.atName
      let (f, first) ← holding [ov] (getMethod ov mn pl)
      callWith pos f first (backTo pos (starEach (ea :: es) X.env)) (backToKw pos (keywordEach [] X.env))) := by rfl) :
    FE Z X W (.Call (.Attribute o mn apos) (ea :: es) [] pos) (eMe mn ms mo ma) := by
  refine ⟨fun pins s σ H Q I h => ?_⟩
  refine PySem.W.methodCall_KW (pl := pl) (thn (he.run pins s σ H (fun v H1 => ∃ ι1 L1 τ x, Wd X.K Z.f ι1 L1 H1 ∧ SR X.K Z ι1 H1 τ σ ∧ VR X.K Z.f ι1 H1 x v ∧ gd X.K Z.f W (VR X.K Z.f) (match mFindS mn ms x L1 with
    | some m => (ma τ L1).bind fun xs L2 => m (x :: xs) L2
    | none => .no) ι1 H1 σ fun _ _ _ v H' => Q v H') I (tM.bind h fun τ x L1 ι1 u H1 w1 s1 r1 g1 => ⟨ι1, L1, τ, x, w1, s1, r1, g1⟩)) fun u s1 ⟨v, H1, I1, rx, ι1, L1, τ, x, w1, sr1, r1, g1⟩ => ?_) ht
  cases hi : mFindS mn ms x L1 with
  | none => rw [hi] at g1; exact g1.elim
  | some m =>
    rw [hi] at g1
    obtain ⟨C, a, rfl, hI, c, f, n, hme, F⟩ := mFindS_at hm w1 r1 hi
    obtain rfl : u = Value.ref a := rx
    refine getmethI_ok I1 hI c hme ?_
    refine PySem.W.callWith_K (first := [.ref a]) (h₀ := X.base) I.ok.mod.kin hme.kp (thn (ha.run pos pins s1 σ H1 (fun vs H2 => ∃ ι2 L2 xs, Wd X.K Z.f ι2 L2 H2 ∧ VR X.K Z.f ι2 H2 x (.ref a) ∧ VRs X.K Z.f ι2 H2 xs vs ∧ gd X.K Z.f W (VR X.K Z.f) (m (x :: xs) L2) ι2 H2 σ fun _ _ _ v H' => Q v H') I1
      ⟨ι1, L1, τ, w1, sr1, gd.bind g1 fun xs L2 ι2 vs H2 _ e w2 r2 g2 => ⟨ι2, L2, xs, w2, r1.up e, r2, g2⟩⟩) fun us s2 ⟨vs, H2, I2, r, ι2, L2, xs, w2, rx2, r2, g2⟩ => ⟨I2.kIn, ?_⟩) hst hpl
    exact F.run (us := .ref a :: us) (vs := .ref a :: vs) (xs := x :: xs) tk I2 (.cons rfl r) w2 ⟨_, _, rfl, rx2, r2⟩ g2
theorem fe_me0 {mn : Str} {ms : List (Str × Fn)} {apos : Pos} {pl : Sem Bool} (hm : ∀ C m, ms.lookup C = some m → Mt X Z.f C mn m) (tk : Tk X W) (he : FE Z X W o mo)
    (ht : eval (.Call (.Attribute o mn apos) [] [] pos) X.env = (do
      let ov ← eval o X.env
      standAt apos.atName
      let (f, first) ← holding [ov] (getMethod ov mn pl)
      callWith pos f first (backTo pos (starEach [] X.env)) (backToKw pos (keywordEach [] X.env))) := by rfl) :
    FE Z X W (.Call (.Attribute o mn apos) [] [] pos) (eMe mn ms mo aN) := by
  refine ⟨fun pins s σ H Q I h => ?_⟩
  refine PySem.W.methodCall_KW (pl := pl) (thn (he.run pins s σ H (fun v H1 => ∃ ι1 L1 x, Wd X.K Z.f ι1 L1 H1 ∧ VR X.K Z.f ι1 H1 x v ∧ gd X.K Z.f W (VR X.K Z.f) (match mFindS mn ms x L1 with
    | some m => m [x] L1
    | none => .no) ι1 H1 σ fun _ _ _ v H' => Q v H') I (tM.bind h fun τ x L1 ι1 u H1 w1 s1 r1 g1 => ⟨ι1, L1, x, w1, r1, by
      cases hi : mFindS mn ms x L1 with
      | none => rw [hi] at g1; exact g1
      | some m => rw [hi] at g1; exact g1⟩)) fun u s1 ⟨v, H1, I1, rx, ι1, L1, x, w1, r1, g1⟩ => ?_) ht
  cases hi : mFindS mn ms x L1 with
  | none => rw [hi] at g1; exact g1.elim
  | some m =>
    rw [hi] at g1
    obtain ⟨C, a, rfl, hI, c, f, n, hme, F⟩ := mFindS_at hm w1 r1 hi
    obtain rfl : u = Value.ref a := rx
    refine getmethI_ok I1 hI c hme ?_
    exact PySem.W.callWith_K0 (first := [.ref a]) I1.kIn hme.kp (F.run (us := [.ref a]) (vs := [.ref a]) (xs := [x]) tk I1 (.cons rfl .nil) w1 ⟨_, _, rfl, r1, rfl⟩ g1)
end
end FL
namespace FL
open PySem PySem.Spec PyProof.Rows L2
abbrev FK (Z : Zs) (X : Cx) (W : WX) (kws : List Keyword) (m : MA) : Prop := PK X kws (tM X.K Z W (VRs X.K Z.f) m)
theorem PK.imp {X : Cx} {es : List Keyword} {t t' : TA} (h : PK X es t) (q : ∀ σ H Q, t' σ H Q → t σ H Q) : PK X es t' := ⟨fun pos pins s σ H Q I z => h.run pos pins s σ H Q I (q _ _ _ z)⟩
structure Ini (X : Cx) (ga : Ga) (C : Str) (n : Nat) (ks : List Str) (gP : List PV → List PV → List PV) (m : Fn) : Prop where
  ex : ∃ (f : Addr) (k : Nat) (fd : FuncData) (ps : List Str), L2.Mk X.K (ga C) f ∧ FnM X.prog X.w X.K X.mg X.base ga k f fd ps m ∧ Room (k + 1) X.A ∧ BindF X.K ga fd ps (n + 1) ks gP ∧ ∀ xs L, xs.length ≠ ps.length → m xs L = .no
  gd : X.A.guards = some []
/-- n arguments, nk keywords -/
def eMk (C : Str) (n nk : Nat) (m : Fn) (gP : List PV → List PV → List PV) (ma mk : MA) : ME := fun τ L => (ma τ L).bind fun xs L1 => (mk τ L1).bind fun zs L2 => if xs.length = n ∧ zs.length = nk then (m (gP (.obj L2.length :: xs) zs) (L2 ++ [.ins C []])).bind fun r L3 => match r with
  | .non => .ok (.obj L2.length) L3
  | _ => .no else .no
section
variable {X : Cx} {Z : Zs} {W : WX} {f : Str} {e o a b : Expr} {me mo : ME} {pos p pos2 : Pos} {es : List Expr} {ma mk : MA} {kws : List Keyword} {x : Str} {m : Fn} {gP : List PV → List PV → List PV} {n : Nat} {ks : List Str}
theorem fk_nil : FK Z X W [] aN := PK.imp pk_nil fun σ H Q ⟨ι, L, τ, w, s, g⟩ => g.ok w (by simp [VRs])
theorem fk_cons {nm : Option Str} {kpos : Pos} (ha : FE Z X W e me) (hr : FK Z X W kws mk) : FK Z X W (⟨nm, e, kpos⟩ :: kws) (aC me mk) :=
  PK.imp (pk_cons ha hr) fun σ H Q h => tM.bind h fun τ x L1 ι1 u H1 w1 s1 r1 g1 => ⟨ι1, L1, τ, w1, s1, g1.bind fun y L2 ι2 v H2 _ e w2 r2 g2 => g2.ok w2 ⟨u, v, rfl, r1.up e, r2⟩⟩
theorem under_guards {A : Around} {C : Addr} {us : List Value} {kw : List (Str × Value)} (h : A.guards = some []) : (A.under (.builtin "type.__call__" ⟨.ref C :: us, kw⟩)).guards = some [] := by
  first | exact h | simpa [Around.under, Code.weight, Code.isCreation, Code.isGuard, Code.isCaller, Code.frames, Code.isFrame, guardIds] using h
theorem Ini.run {C : Str} {pins : List (Addr × Obj)} {σ : L2.St} {H : Hp} {s : Shared} {Q : VK} {us ws : List Value} {vs zs : List V} {ι : List Addr} {L : LH} {xs ys : List PV} (F : Ini X Z.f C n ks gP m) (tk : Tk X W)
    (I : Inv X pins σ H s) (r : Vals vs us) (rz : Vals zs ws) (l1 : vs.length = n) (l2 : zs.length = ks.length) (w : Wd X.K Z.f ι L H) (rx : VRs X.K Z.f ι H xs vs) (ry : VRs X.K Z.f ι H ys zs)
    (g : FL.gd X.K Z.f W (VR X.K Z.f) ((m (gP (.obj L.length :: xs) ys) (L ++ [.ins C []])).bind fun r L3 => match r with
      | .non => .ok (.obj L.length) L3
      | _ => .no) ι H σ fun _ _ _ v H' => Q v H') : wpAny (model X.prog X.w) X.A (call (.ref (Z.f C)) us (ks.zip ws)) (EP X pins σ Q) X.xe s := by
  obtain ⟨⟨f, k, fd, ps, M, F, hr, ⟨gv, gV, hb, hP⟩, hlen⟩, hgd⟩ := F
  have J := Inv.made (C := Z.f C) I
  have h1 : H s.heap.objs.size = none := I.hok.fresh (Nat.le_refl _)
  have h2 : H (s.heap.objs.size + 1) = none := I.hok.fresh (Nat.le_succ _)
  generalize ex : s.heap.objs.size + 1 = xa at *
  generalize ed : s.heap.objs.size = dx at *
  have hne : xa ≠ dx := by omega
  have e1 := Ext.new (K := X.K) (ι := ι) (o := .own xa) h1
  have w1 := w.new (o := .own xa) h1
  have h2' : upd H dx (.own xa) xa = none := by rw [upd_ne hne]; exact h2
  have e2 : Ext X.K ι H (ι ++ [xa]) (upd (upd H dx (.own xa)) xa (.ins (Z.f C) dx [])) := e1.trans (Ext.alloc h2')
  have w2 : Wd X.K Z.f (ι ++ [xa]) (L ++ [.ins C []]) (upd (upd H dx (.own xa)) xa (.ins (Z.f C) dx [])) := w1.alloc h2' ⟨dx, [], rfl, rfl⟩
  have rself : VR X.K Z.f (ι ++ [xa]) (upd (upd H dx (.own xa)) xa (.ins (Z.f C) dx [])) (.obj L.length) (.ref xa) := ⟨xa, by rw [← w.len]; simp, rfl⟩
  have rall := hP _ _ _ _ _ _ (show VRs X.K Z.f (ι ++ [xa]) (upd (upd H dx (.own xa)) xa (.ins (Z.f C) dx [])) (.obj L.length :: xs) (.ref xa :: vs) from ⟨_, _, rfl, rself, rx.up e2⟩) (ry.up e2)
  have hlv : (gV (.ref xa :: vs) zs).length = ps.length := by
    rw [← rall.len]
    by_cases h : (gP (.obj L.length :: xs) ys).length = ps.length
    · exact h
    · rw [hlen _ _ h] at g; exact g.elim
  have hsp : spM ps.length X.K Z.f m (gV (.ref xa :: vs) zs) (upd (upd H dx (.own xa)) xa (.ins (Z.f C) dx [])) (fun v H3 => v = .non ∧ Q (.ref xa) H3) (fun c d H => W c d σ H) := by
    refine ⟨hlv, ι ++ [xa], L ++ [.ins C []], _, w2, rall, ?_⟩
    have g' := gd.ext g e2
    refine FL.gd.bind (rel2 := VR X.K Z.f) (W := W) (σ := σ) g' fun r L3 ι3 v H3 _ e3 w3 r3 g3 => ?_
    cases r with
    | non =>
      refine ⟨by simpa [VR] using r3, g3.ok w3 ?_⟩
      exact rself.up e3
    | _ => exact g3.elim
  have rr := hb.rel (Paired.cons (show RelV (V.ref xa) (Value.ref xa) from rfl) r) rz
  have ln : (Value.ref xa :: us).length = n + 1 := congrArg (· + 1) (r.length.symm.trans l1)
  have go := F.run _ X.stack _ _ ⟨Value.ref xa :: us, ks.zip ws⟩ _ _ _ _ (under_guards (C := Z.f C) (us := us) (kw := ks.zip ws) hgd) (hr.make (Z.f C) us (ks.zip ws)) (J.env0.make (Z.f C) us (ks.zip ws)) (hb.to _ (Value.ref xa :: us) ws J.kIn ln (rz.length.symm.trans l2)) rr hsp
  refine wpAny_call (make_map (f := f) I.kIn M.makes M.init (beq_iff_eq.mp M.fn) ?_)
  rw [ed, ex]
  refine codeAny_mono go fun r s' hq => ?_
  match r, hq with
  | .error e, hq => exact tk pins _ _ _ _ e s' J (fun _ _ _ z => z) hq
  | .ok (.ret u), hq =>
    obtain ⟨v, H', I3, rv, rfl, q3⟩ := J.after hq
    exact ⟨rv, ⟨V.ref xa, H', I3, rfl, q3⟩⟩
  | .ok .next, hq => exact hq.elim
  | .ok .brk, hq => exact hq.elim
  | .ok .cont, hq => exact hq.elim
theorem fe_mk {C : Str} (F : Ini X Z.f C n ks gP m) (tk : Tk X W) (hg : Gl X C) (hm : X.mg C = some (.ref (Z.f C))) (ha : FA Z X W (e :: es) ma) (hkw : FK Z X W kws mk)
    (hall : (backToKw pos (keywordEach kws X.env)).all (·.1.isSome) = true := by rfl) (hks : (backToKw pos (keywordEach kws X.env)).filterMap (·.1) = ks := by rfl) (hdb : (C == ("__debug__" : Str)) = false := by decide)
    (he : starEach (e :: es) X.env = (false, eval e X.env) :: starEach es X.env := by rfl) (hpl : ((backTo pos (starEach (e :: es) X.env)).any (·.1) || (backToKw pos (keywordEach kws X.env)).any (·.1.isNone)) = false := by rfl) :
    FE Z X W (.Call (.Name C p) (e :: es) kws pos) (eMk C n ks.length m gP ma mk) := by
  have kp : PySem.W.keepIn X.K (.ref (Z.f C)) = true := let ⟨_, _, _, _, M, _⟩ := F.ex; M.kp
  refine ⟨fun pins s σ H Q I h => wpAny_Call_Name_kw (ld_glob I hg hm (PySem.W.callWith_KW (h₀ := X.base) I.ok.mod.kin kp hall (thn (ha.run pos pins s σ H (fun vs H1 => ∃ ι1 L1 τ xs, Wd X.K Z.f ι1 L1 H1 ∧ SR X.K Z ι1 H1 τ σ ∧ VRs X.K Z.f ι1 H1 xs vs ∧ gd X.K Z.f W (VR X.K Z.f) ((mk τ L1).bind fun zs L2 => if xs.length = n ∧ zs.length = ks.length then (m (gP (.obj L2.length :: xs) zs) (L2 ++ [.ins C []])).bind fun r L3 => match r with
    | .non => .ok (.obj L2.length) L3
    | _ => .no else .no) ι1 H1 σ fun _ _ _ v H' => Q v H') I (tM.bind h fun τ xs L1 ι1 vs H1 w1 s1 r1 g1 => ⟨ι1, L1, τ, xs, w1, s1, r1, g1⟩)) fun us s1 hh => ?_) hpl he) hdb)⟩
  obtain ⟨vs, H1, I1, r, ι1, L1, τ, xs, w1, s1', r1, g1⟩ := hh
  refine thn (hkw.run pos pins s1 σ H1 (fun zv H2 => ∃ ι2 L2 zs, Wd X.K Z.f ι2 L2 H2 ∧ VRs X.K Z.f ι2 H2 xs vs ∧ VRs X.K Z.f ι2 H2 zs zv ∧ gd X.K Z.f W (VR X.K Z.f) (if xs.length = n ∧ zs.length = ks.length then (m (gP (.obj L2.length :: xs) zs) (L2 ++ [.ins C []])).bind fun r L3 => match r with
    | .non => .ok (.obj L2.length) L3
    | _ => .no else .no) ι2 H2 σ fun _ _ _ v H' => Q v H') I1 ⟨ι1, L1, τ, w1, s1', gd.bind g1 fun zs L2 ι2 zv H2 _ e2 w2 r2 g2 => ⟨ι2, L2, zs, w2, r1.up e2, r2, g2⟩⟩) fun ws s2 ⟨zv, H2, I2, rz, ι2, L2, zs, w2, rx2, r2, g2⟩ => ⟨I2.kIn, ?_⟩
  rw [hks]
  split at g2
  · rename_i hl
    exact F.run tk I2 r rz (by rw [← rx2.len]; exact hl.1) (by rw [← r2.len]; exact hl.2) w2 rx2 r2 g2
  · exact g2.elim
def sRs (c : Str) (names : List Str) (ma : MA) : MS := fun τ L => (ma τ L).st τ fun xs L1 => if xs.length = names.length then .ex c (names.zip xs).reverse τ L1 else .no
theorem fs_raise1 {c f1 : Str} {fI : Addr} {B newId initId : String} {bm : List Value} {k : Nat} (hc : X.calm = true) (T : ETx X.prog X.K X.mg c (Z.f c) fI B newId initId bm) (G : PySem.MEX.EFn1 X.prog X.K (Z.f c) fI f1) (hr : Room k X.A) (tk : Takes X W) (ha : FA Z X W [a] ma) (hg : Gl X c := by rfl) (hd : (c == ("__debug__" : Str)) = false := by decide)
    (he : starEach [a] X.env = (false, eval a X.env) :: starEach [] X.env := by rfl) (hpl : (backTo pos (starEach [] X.env)).any (·.1) = false := by rfl) :
    FS Z X W (.Raise (some (.Call (.Name c p) [a] [] pos)) none pos2) (sRs c [f1] ma) :=
  PS.imp (ps_raiseE1 hc T G hr tk ha hg hd he hpl) fun D σ H h => tS.st h fun τ xs L1 ι1 vs H1 w1 s1 r1 g1 => by
    split at g1
    · rename_i hl
      refine ⟨by rw [← r1.len]; exact hl, fun d hd => ?_⟩
      obtain ⟨x, rfl⟩ := List.length_eq_one_iff.mp hl
      obtain ⟨v, r, rfl, rv, hr⟩ := r1
      cases (show r = [] from hr)
      have e := Ext.new (K := X.K) (ι := ι1) (o := .xd [(f1, v)]) hd
      exact g1 ι1 _ σ (some d) [(f1, v)] e (w1.new hd) (s1.up e) upd_same ⟨v, [], rfl, rv.up e, rfl⟩
    · exact g1.elim
/-- what a suite leaves: slot i is gone -/
def RS.un (i : Nat) : RS → RS
  | .nx τ L => .nx (τ.set i none) L
  | .bk τ L => .bk (τ.set i none) L
  | .ct τ L => .ct (τ.set i none) L
  | .rt v L => .rt v L
  | _ => .no
abbrev Hdl := Str × Nat × (List (Str × PV) → MS)
def hdlL : List Hdl → Str → List (Str × PV) → MS
  | [], c, fs => fun τ L => .ex c fs τ L
  | (c', i, m) :: r, c, fs => if c = c' then fun τ L => if i < τ.length ∧ fs.isEmpty = false then (m fs (τ.set i none) L).un i else .no else hdlL r c fs
/-- known: the classes that are told apart -/
def sTry (known : List Str) (hs : List Hdl) (mb : MS) : MS := fun τ L => match mb τ L with
  | .ex c fs τ' L' => if known.contains c then hdlL hs c fs τ' L' else .no
  | r => r
/-- a suite's derivation -/
inductive Hds (Z : Zs) (X : Cx) (known : List Str) : List ExceptHandler → List Hdl → Prop
  | nil : Hds Z X known [] []
  | cons {x n : Str} {i : Nat} {m : List (Str × PV) → MS} {b₀ : Stmt} {su : List Stmt} {np po : Pos} {hs : List ExceptHandler} {l : List Hdl} (hc : Names X x (.ref (Z.f x))) (hi : X.N[i]? = some n) (hn : X.env.kindOf n = some .local) (hz : Z.ok i = true)
      (hx : ∀ c ∈ known, PySem.W.exmOne X.K (.ref (Z.f c)) (.ref (Z.f x)) = some (decide (c = x)))
      (hsu : ∀ (a : Addr) (oe : Obj) (d : Addr) (pn : List (Addr × Obj)) (fs : List (Str × PV)), Zc (.ref (Z.f x)) (some d) oe → (∃ vs, oe.data = .fields vs) → FSs ⟨Z.f, ⟨i, a, d, fs, none⟩ :: Z.gh⟩ (X.suite a ((a, oe) :: pn)) W0 (b₀ :: su) (m fs)) (r : Hds Z X known hs l) :
      Hds Z X known (.ExceptHandler (some (.Name x np)) (some n) (b₀ :: su) po :: hs) ((x, i, m) :: l)
/-- the readings of the suites -/
def tsOf (K : PySem.W.Frag) (Z : Zs) (x : Str) (i : Nat) (m : List (Str × PV) → MS) : Addr → Value → Option Addr → TS := fun a cls d D σ H => ∃ fs dd, cls = .ref (Z.f x) ∧ d = some dd ∧ tS K ⟨Z.f, ⟨i, a, dd, fs, none⟩ :: Z.gh⟩ W0 (m fs) D σ H
def claOf (K : PySem.W.Frag) (Z : Zs) (l : List Hdl) : List ClA := l.map fun h => (.ref (Z.f h.1), h.2.1, tsOf K Z h.1 h.2.1 h.2.2)
theorem Hds.toA {known : List Str} {hs : List ExceptHandler} {l : List Hdl} (h : Hds Z X known hs l) : HdsA X hs (claOf X.K Z l) := by
  induction h with
  | nil => exact .nil
  | cons hc hi hn hz hx hsu r ih =>
    refine .cons hc hi hn (fun a oe cls d pn z1 z2 => ?_) ih
    refine ⟨fun pins s σ H D I ⟨fs, dd, e1, e2, h⟩ => ?_⟩
    subst e1 e2
    exact (hsu a oe dd pn fs z1 z2).run pins s σ H D I h
theorem hdl_read {known : List Str} {hs : List ExceptHandler} {l : List Hdl} (h : Hds Z X known hs l) {c : Str} (hk : c ∈ known) {fs : List (Str × PV)} {τ : Sl} {L : LH} {ι : List Addr} {H : Hp} {D : Ends} {σ : L2.St} {d : Option Addr} {lx : List (Str × V)}
    (w : Wd X.K Z.f ι L H) (s : SR X.K Z ι H τ σ) (hd : XdAt H d lx) (hf : FRs X.K Z.f ι H fs lx) (g : gs X.K Z W (hdlL l c fs τ L) ι H D) : wManyA X.K W D (claOf X.K Z l) (.ref (Z.f c)) d σ H := by
  induction h with
  | nil => exact g ι H σ d lx Ext.refl w s hd hf
  | @cons x n i m b₀ su np po hs l hc hi hn hz hx hsu r ih =>
    refine ⟨_, hx c hk, fun hb a na => ?_, fun hb => ?_⟩
    · have e : c = x := of_decide_eq_true hb
      subst e
      unfold hdlL at g
      rw [if_pos rfl] at g
      split at g
      case isFalse => exact g.elim
      rename_i hil
      obtain ⟨hil, hne⟩ := hil
      obtain ⟨d, rfl⟩ : ∃ dd, d = some dd := by
        cases d with
        | some d => exact ⟨d, rfl⟩
        | none =>
          have hd : lx = [] := hd
          subst hd
          cases fs with
          | nil => cases hne
          | cons p r => obtain ⟨v, r2, e, _⟩ := hf; cases e
      show tsOf X.K Z c i m a (.ref (Z.f c)) (some d) (D.un i) (σ.set i (some (.ref a))) H
      refine ⟨fs, d, rfl, rfl, ι, L, τ.set i none, w, ⟨by simp [s.len], fun j y q => ?_, fun gh hg => ?_⟩, ?_⟩
      · by_cases hj : j = i
        · subst hj
          have hl : j < τ.length := by
            have := (List.getElem?_eq_some_iff.mp q).1
            simpa using this
          rw [List.getElem?_set_self hl] at q
          cases q
        · rw [List.getElem?_set_ne (Ne.symm hj)] at q
          rw [List.getElem?_set_ne (Ne.symm hj)]
          exact s.at_ j y q
      · rcases List.mem_cons.mp hg with rfl | hg
        · refine ⟨?_, xd_not (w := w) hd, lx, hd, hf⟩
          rw [List.getElem?_set_self (s.len ▸ hil)]
        · obtain ⟨h1, h2⟩ := s.gh gh hg
          have z := List.all_eq_true.mp hz gh hg
          refine ⟨?_, h2⟩
          rw [List.getElem?_set_ne (by intro y; rw [y] at z; simp at z)]
          exact h1
      · have k : ∀ ι' H' (σ' : L2.St) (τ' : Sl), SR X.K ⟨Z.f, ⟨i, a, d, fs, none⟩ :: Z.gh⟩ ι' H' τ' σ' → SR X.K Z ι' H' (τ'.set i none) (σ'.set i none) := fun ι' H' σ' τ' s' =>
          SR.gone (Z := Z) ⟨s'.len, s'.at_, fun gh hg => s'.gh gh (List.mem_cons_of_mem _ hg)⟩ i hz
        cases hm : m fs (τ.set i none) L with
        | nx τ' L' => rw [hm] at g; exact fun ι' H' σ' e w' s' => g ι' H' _ e w' (k _ _ _ _ s')
        | bk τ' L' => rw [hm] at g; exact fun ι' H' σ' e w' s' => g ι' H' _ e w' (k _ _ _ _ s')
        | ct τ' L' => rw [hm] at g; exact fun ι' H' σ' e w' s' => g ι' H' _ e w' (k _ _ _ _ s')
        | rt v L' => rw [hm] at g; exact g
        | ex => rw [hm] at g; exact g.elim
        | no => rw [hm] at g; exact g.elim
    · have e : c ≠ x := of_decide_eq_false hb
      unfold hdlL at g
      rw [if_neg e] at g
      exact ih g
theorem fs_try {known : List Str} {body : List Stmt} {k₀ : ExceptHandler} {hs : List ExceptHandler} {l : List Hdl} {mb : MS} (e1 : X.stack = X.env :: X.outer) (e2 : X.env.frame = some X.env.locals) (nd : X.N.Nodup) (tk : Takes X W)
    (hb : ∀ (W' : WX) (pn : List (Addr × Obj)) (xe : Value → Shared → Prop), Takes (X.tr pn xe) W' → PassesOwn (model X.prog X.w) X.A X.env xe → FSs Z (X.tr pn xe) W' body mb)
    (hh : Hds Z X known (k₀ :: hs) l) : FS Z X W (.Try body (k₀ :: hs) [] [] pos) (sTry known l mb) :=
  PS.imp (ps_try_manyA (tb := fun W' => tS X.K Z W' mb) e1 e2 nd tk hb hh.toA) fun D σ H ⟨ι, L, τ, w, s, g⟩ => by
    refine ⟨ι, L, τ, w, s, ?_⟩
    unfold sTry at g
    cases hm : mb τ L with
    | ex c fs τ' L' =>
      rw [hm] at g
      intro ι' H' σ' d lx e w' s' hd hf
      dsimp only at g
      split at g
      · rename_i hk
        exact hdl_read hh (by simpa using hk) w' s' hd hf (gs.ext g e)
      · exact g.elim
    | nx => rw [hm] at g; exact g
    | bk => rw [hm] at g; exact g
    | ct => rw [hm] at g; exact g
    | rt => rw [hm] at g; exact g
    | no => rw [hm] at g; exact g.elim
/-- e.f of the exception that is handled -/
def eX (fs : List (Str × PV)) (f : Str) : ME := fun _ L => match fs.lookup f with
  | some v => .ok v L
  | none => .no
theorem fe_x {c f n : Str} {i : Nat} {a d : Addr} {oe : Obj} {pn : List (Addr × Obj)} {fs : List (Str × PV)} {gh : List Gh} {ga : Ga} {np : Pos} (T : XfC X.K (ga c)) (hno : PySem.W.findIn X.K (.ref (ga c)) f = some none) (hz : Zc (.ref (ga c)) (some d) oe) (hf : ∃ vs, oe.data = .fields vs)
    (hN : X.N[i]? = some n) (hv : Vis X.env.scope n) (hd : (n == ("__debug__" : Str)) = false := by decide) (hcd : (n == ("__classdict__" : Str)) = false := by decide) (hb : attributeBase (.Name n np) f X.env (eval (.Name n np) X.env) = eval (.Name n np) X.env := by rfl) :
    FE ⟨ga, ⟨i, a, d, fs, none⟩ :: gh⟩ (X.suite a ((a, oe) :: pn)) W (.Attribute (.Name n np) f pos) (eX fs f) :=
  PE.imp (pe_xf (X := X) T hno hz hf (pe_var (X := X.suite a ((a, oe) :: pn)) (i := i) hN hv hd hcd) hb) fun σ H Q ⟨ι, L, τ, w, s, g⟩ => by
    obtain ⟨h1, hn, l, h2, h3⟩ := s.gh _ List.mem_cons_self
    unfold eX at g
    cases hq : fs.lookup f with
    | none => rw [hq] at g; exact g.elim
    | some y =>
      rw [hq] at g
      obtain ⟨v, q1, q2⟩ := h3.some hq
      exact ⟨_, h1, rfl, rfl, d, l, v, rfl, h2, q1, g.ok w q2⟩
end
end FL
namespace FL
open PySem PySem.Spec PyProof.Rows L2
mutual
/-- data within a value: lists as they stand -/
def dat (L : LH) : Nat → PV → Option PyData
  | 0, _ => none
  | n + 1, x => match x with
    | .non => some .none
    | .bl b => some (.bool b)
    | .int i => some (.int i)
    | .str z => some (.str z)
    | .tup xs => (datL L n xs).map .tuple
    | .rol xs => (datL L n xs).map .list
    | .obj k => match L[k]? with
      | some (.lst xs) => (datL L n xs).map .list
      | _ => none
    | _ => none
def datL (L : LH) : Nat → List PV → Option (List PyData)
  | _, [] => some []
  | 0, _ :: _ => none
  | n + 1, x :: xs => match dat L n x, datL L n xs with
    | some d, some ds => some (d :: ds)
    | _, _ => none
end
section
variable {K : PySem.W.Frag} {ga : Ga} {ι : List Addr} {H : Hp} {L : LH}
mutual
theorem dat_ok (w : Wd K ga ι L H) : ∀ (n : Nat) (x : PV) (v : V) (d : PyData), VR K ga ι H x v → dat L n x = some d → Dp K H v d
  | 0, _, _, _, _, e => by simp [dat] at e
  | n + 1, x, v, d, r, e => by
    cases x with
    | non => obtain rfl : v = .non := by simpa [VR] using r
             simp [dat] at e; subst e; exact .non
    | bl b => obtain rfl : v = .bl b := by simpa [VR] using r
              simp [dat] at e; subst e; exact .bl b
    | int i => obtain rfl : v = .int i := by simpa [VR] using r
               simp [dat] at e; subst e; exact .int i
    | str z => obtain rfl : v = .str z := by simpa [VR] using r
               simp [dat] at e; subst e; exact .str z
    | tup xs =>
      obtain ⟨a, ys, rfl, h1, h2⟩ := r
      simp only [dat] at e
      cases q : datL L n xs with
      | none => rw [q] at e; cases e
      | some ds => rw [q] at e; cases e; exact .tup h1 (datL_ok w n xs ys ds h2 q)
    | rol xs =>
      obtain ⟨a, ys, rfl, h1, h2⟩ := r
      simp only [dat] at e
      cases q : datL L n xs with
      | none => rw [q] at e; cases e
      | some ds => rw [q] at e; cases e; exact .lst h1.sq (datL_ok w n xs ys ds h2 q)
    | obj k =>
      obtain ⟨a, h1, rfl⟩ := r
      simp only [dat] at e
      cases hl : L[k]? with
      | none => rw [hl] at e; cases e
      | some o =>
        rw [hl] at e
        cases o with
        | lst xs =>
          obtain ⟨ho, q1, ys, rfl, q2⟩ := w.at_ k a _ h1 hl
          cases q : datL L n xs with
          | none => simp only [q] at e; cases e
          | some ds => simp only [q] at e; cases e; exact .lst (SqL.of q1) (datL_ok w n xs ys ds q2 q)
        | _ => cases e
    | glo _ => simp [dat] at e
    | ty _ => simp [dat] at e
theorem datL_ok (w : Wd K ga ι L H) : ∀ (n : Nat) (xs : List PV) (vs : List V) (ds : List PyData), VRs K ga ι H xs vs → datL L n xs = some ds → DpAll K H vs ds
  | _, [], _, _, r, e => by cases (show _ = [] from r); simp [datL] at e; subst e; exact .nil
  | 0, _ :: _, _, _, _, e => by simp [datL] at e
  | n + 1, x :: xs, _, ds, r, e => by
    obtain ⟨y, ys, rfl, r1, r2⟩ := r
    simp only [datL] at e
    cases q1 : dat L n x with
    | none => rw [q1] at e; cases e
    | some d =>
      rw [q1] at e
      cases q2 : datL L n xs with
      | none => rw [q2] at e; cases e
      | some ds' => rw [q2] at e; cases e; exact .cons (dat_ok w n x y d r1 q1) (datL_ok w n xs ys ds' r2 q2)
end
theorem VR.i {i : Int} {v : V} (r : VR K ga ι H (.int i) v) : v = .int i := by simpa [VR] using r
theorem VR.b {i : Bool} {v : V} (r : VR K ga ι H (.bl i) v) : v = .bl i := by simpa [VR] using r
theorem VR.s {i : Str} {v : V} (r : VR K ga ι H (.str i) v) : v = .str i := by simpa [VR] using r
theorem VR.n {v : V} (r : VR K ga ι H .non v) : v = .non := by simpa [VR] using r
theorem vri {i : Int} : VR K ga ι H (.int i) (.int i) := by simp [VR]
theorem vrb {i : Bool} : VR K ga ι H (.bl i) (.bl i) := by simp [VR]
theorem vrs {i : Str} : VR K ga ι H (.str i) (.str i) := by simp [VR]
theorem vrn : VR K ga ι H .non .non := by simp [VR]
theorem lst_at {n : Nat} {xs : List PV} {v : V} (w : Wd K ga ι L H) (r : VR K ga ι H (.obj n) v) (hl : L[n]? = some (.lst xs)) : ∃ a ys, v = .ref a ∧ ι[n]? = some a ∧ H a = some (.lst ys) ∧ VRs K ga ι H xs ys := by
  obtain ⟨a, h1, rfl⟩ := r
  obtain ⟨ho, q1, ys, rfl, q2⟩ := w.at_ n a _ h1 hl
  exact ⟨a, ys, rfl, h1, q1, q2⟩
/-- a new list -/
theorem new_lst {W : WX} {σ : L2.St} {Q : VK} {xs : List PV} {ys : List V} (w : Wd K ga ι L H) (r : VRs K ga ι H xs ys) (g : gd K ga W (VR K ga) (.ok (.obj L.length) (L ++ [.lst xs])) ι H σ fun _ _ _ z H' => Q z H') {p : Addr} (hp : H p = none) : Q (.ref p) (upd H p (.lst ys)) := by
  have e := Ext.alloc (K := K) (ι := ι) (o := .lst ys) hp
  exact g _ _ (.ref p) e (w.alloc hp ⟨ys, rfl, r.up e⟩) ⟨p, by rw [← w.len]; simp, rfl⟩
theorem new_tup {W : WX} {σ : L2.St} {Q : VK} {xs : List PV} {ys : List V} (w : Wd K ga ι L H) (r : VRs K ga ι H xs ys) (g : gd K ga W (VR K ga) (.ok (.tup xs) L) ι H σ fun _ _ _ z H' => Q z H') {p : Addr} (hp : H p = none) : Q (.ref p) (upd H p (.tup ys)) := by
  have e := Ext.new (K := K) (ι := ι) (o := .tup ys) hp
  exact g _ _ (.ref p) e (w.new hp) ⟨p, ys, rfl, SqT.new, r.up e⟩
end
def addF (x y : PV) (L : LH) : R PV := match x, y with
  | .int i, .int j => .ok (.int (i + j)) L
  | .str a, .str b => if a.length + b.length ≤ sizeLine then .ok (.str (a ++ b)) L else .no
  | .tup xs, .tup ys => if xs.length + ys.length ≤ sizeLine then .ok (.tup (xs ++ ys)) L else .no
  | .obj n, .obj m => match L[n]?, L[m]? with
    | some (.lst xs), some (.lst ys) => if xs.length + ys.length ≤ sizeLine then .ok (.obj L.length) (L ++ [.lst (xs ++ ys)]) else .no
    | _, _ => .no
  | _, _ => .no
def rAddA (K : PySem.W.Frag) : R2 := fun x y H Q => (∃ i j, x = .int i ∧ y = .int j ∧ Q (.int (i + j)) H) ∨ (∃ i j, x = .str i ∧ y = .str j ∧ i.length + j.length ≤ sizeLine ∧ Q (.str (i ++ j)) H) ∨ rCat x y H Q ∨ rCatA K x y H Q
section
variable {X : Cx} {K : PySem.W.Frag} {ga : Ga}
theorem op_addA : OpR X (binaryOp .Add) (rAddA X.K) := op_add.or (op_add_str.or (op_cat.or op_catA))
theorem addL : OpL K ga addF (rAddA K) := by
  intro W ι L H σ x y u v Q w rx ry g
  unfold addF at g
  split at g
  · exact .inl ⟨_, _, rx.i, ry.i, g.ok w vri⟩
  · split at g
    · rename_i hz
      exact .inr (.inl ⟨_, _, rx.s, ry.s, hz, g.ok w vrs⟩)
    · exact g.elim
  · split at g
    · rename_i xs ys hz
      obtain ⟨a, as, rfl, h1, h2⟩ := rx
      obtain ⟨b, bs, rfl, h3, h4⟩ := ry
      refine .inr (.inr (.inr ⟨a, b, as, bs, rfl, rfl, h1, h3, by rw [← h2.len, ← h4.len]; exact hz, fun e => ?_, fun e1 e2 => ?_, fun _ _ p hp => new_tup w (h2.app h4) g hp⟩))
      · subst e
        have : xs = [] := by cases xs with | nil => rfl | cons => exact absurd h2.len (by simp)
        subst this
        exact g.ok w ⟨b, bs, rfl, h3, h4⟩
      · subst e2
        have : ys = [] := by cases ys with | nil => rfl | cons => exact absurd h4.len (by simp)
        subst this
        rw [List.append_nil] at g
        exact g.ok w ⟨a, as, rfl, h1, h2⟩
    · exact g.elim
  · split at g
    · rename_i hl hm
      split at g
      · rename_i hz
        obtain ⟨a, as, rfl, _, h1, h2⟩ := lst_at w rx hl
        obtain ⟨b, bs, rfl, _, h3, h4⟩ := lst_at w ry hm
        exact .inr (.inr (.inl ⟨a, b, as, bs, rfl, rfl, h1, h3, by rw [← h2.len, ← h4.len]; exact hz, fun p hp => new_lst w (h2.app h4) g hp⟩))
      · exact g.elim
    · exact g.elim
  · exact g.elim
def subF (x y : PV) (L : LH) : R PV := match x, y with
  | .int i, .int j => .ok (.int (i - j)) L
  | _, _ => .no
theorem subL : OpL K ga subF (rI0 fun i j => .int (i - j)) := by
  intro W ι L H σ x y u v Q w rx ry g
  unfold subF at g
  split at g
  · exact ⟨_, _, rx.i, ry.i, g.ok w vri⟩
  · exact g.elim
def mulF (x y : PV) (L : LH) : R PV := match x, y with
  | .int i, .int j => if i.natAbs.log2 + j.natAbs.log2 < 1000000 then .ok (.int (i * j)) L else .no
  | .tup [a], .int k => if 0 ≤ k ∧ k ≤ 1000 then .ok (.tup (List.replicate k.toNat a)) L else .no
  | _, _ => .no
def rMulA (K : PySem.W.Frag) : R2 := fun x y H Q => rI CMulW (fun i j => .int (i * j)) x y H Q ∨ rRep1 K x y H Q
theorem op_mulA : OpR X (binaryOp .Mult) (rMulA X.K) := op_mulW.or op_rep1
theorem VRs.rep {ι : List Addr} {H : Hp} {x : PV} {v : V} (r : VR K ga ι H x v) : ∀ k, VRs K ga ι H (List.replicate k x) (List.replicate k v)
  | 0 => rfl
  | k + 1 => ⟨v, _, rfl, r, VRs.rep r k⟩
theorem mulL : OpL K ga mulF (rMulA K) := by
  intro W ι L H σ x y u v Q w rx ry g
  unfold mulF at g
  split at g
  · split at g
    · rename_i hz
      exact .inl ⟨_, _, rx.i, ry.i, hz, g.ok w vri⟩
    · exact g.elim
  · split at g
    · rename_i a k hz
      obtain ⟨p, ps, rfl, h1, y, r, rfl, h2, h3⟩ := rx
      cases (show r = [] from h3)
      have ek : ((k.toNat : Nat) : Int) = k := by omega
      refine .inr ⟨p, k.toNat, y, rfl, by rw [ek]; exact ry.i, h1, by omega, fun q H' s hT => ?_⟩
      have e : Ext K ι H ι H' := ⟨⟨[], by simp, fun _ h => nomatch h⟩, fun a o _ h _ _ => s _ _ h, fun a ys h => by
        rcases h with (h | ⟨u', h⟩) | h
        · exact .inl (.inl (s _ _ h))
        · exact .inl (.inr ⟨u', s _ _ h⟩)
        · exact .inr h, fun a ys h => by
        rcases h with ⟨u', h⟩ | h
        · exact .inl ⟨u', s _ _ h⟩
        · exact .inr h, fun a o u h => s _ _ h, fun a y _ h => .inl (s _ _ h), fun a l h => s _ _ h⟩
      refine g ι H' (.ref q) e (w.ext e (fun a ha => ?_) (w.tb.ext s)) ⟨q, _, rfl, hT, VRs.rep (h2.up e) _⟩
      obtain ⟨ho, q1, _⟩ := w.some ha
      rw [q1]; exact s _ _ q1
    · exact g.elim
  · exact g.elim
def modF (x y : PV) (L : LH) : R PV := match x, y with
  | .int i, .int j => if 0 < j then .ok (.int (i % j)) L else .no
  | _, _ => .no
theorem modL : OpL K ga modF (rI (fun _ j => 0 < j) fun i j => .int (i % j)) := by
  intro W ι L H σ x y u v Q w rx ry g
  unfold modF at g
  split at g
  · split at g
    · rename_i hz
      exact ⟨_, _, rx.i, ry.i, hz, g.ok w vri⟩
    · exact g.elim
  · exact g.elim
def fdivF (x y : PV) (L : LH) : R PV := match x, y with
  | .int i, .int j => if 0 < j ∧ j.natAbs.log2 < 9000 then .ok (.int (i / j)) L else .no
  | _, _ => .no
theorem fdivL : OpL K ga fdivF (rI CDivW fun i j => .int (i / j)) := by
  intro W ι L H σ x y u v Q w rx ry g
  unfold fdivF at g
  split at g
  · split at g
    · rename_i hz
      exact ⟨_, _, rx.i, ry.i, hz, g.ok w vri⟩
    · exact g.elim
  · exact g.elim
def powF (x y : PV) (L : LH) : R PV := match x, y with
  | .int i, .int j => if 0 ≤ j ∧ j ≤ 1000000 ∧ i.natAbs < 2 ^ 64 then .ok (.int (i ^ j.toNat)) L else .no
  | _, _ => .no
theorem powL : OpL K ga powF (rI CPow fun i j => .int (i ^ j.toNat)) := by
  intro W ι L H σ x y u v Q w rx ry g
  unfold powF at g
  split at g
  · split at g
    · rename_i hz
      exact ⟨_, _, rx.i, ry.i, hz, g.ok w vri⟩
    · exact g.elim
  · exact g.elim
def negF (x : PV) (L : LH) : R PV := match x with
  | .int i => .ok (.int (-i)) L
  | _ => .no
theorem negL : UnL K ga negF (rU fun i => .int (-i)) := by
  intro W ι L H σ x u Q w rx g
  unfold negF at g
  split at g
  · exact ⟨_, rx.i, g.ok w vri⟩
  · exact g.elim
def cmpF (p : Int → Int → Bool) (x y : PV) (L : LH) : R PV := match x, y with
  | .int i, .int j => .ok (.bl (p i j)) L
  | _, _ => .no
theorem cmpL (p : Int → Int → Bool) : OpL K ga (cmpF p) (rI0 fun i j => .bl (p i j)) := by
  intro W ι L H σ x y u v Q w rx ry g
  unfold cmpF at g
  split at g
  · exact ⟨_, _, rx.i, ry.i, g.ok w vrb⟩
  · exact g.elim
abbrev ltF := cmpF fun i j => decide (i < j)
abbrev leF := cmpF fun i j => decide (i ≤ j)
abbrev gtF := cmpF fun i j => decide (j < i)
abbrev geF := cmpF fun i j => decide (j ≤ i)
theorem ltL : OpL K ga ltF (rI0 fun i j => .bl (decide (i < j))) := cmpL _
theorem gtL : OpL K ga gtF (rI0 fun i j => .bl (decide (j < i))) := cmpL _
theorem geL : OpL K ga geF (rI0 fun i j => .bl (decide (j ≤ i))) := cmpL _
/-- == of data -/
def eqD (L : LH) (x y : PV) : Option Bool := match dat L 60 x, dat L 60 y with
  | some d, some e => if SeqAt.shaped d = true ∧ SeqAt.shaped e = true then some (PyData.eqv d e) else none
  | _, _ => none
def eqF (x y : PV) (L : LH) : R PV := match eqD L x y with
  | some b => .ok (.bl b) L
  | none => .no
def neF (x y : PV) (L : LH) : R PV := match eqD L x y with
  | some b => .ok (.bl (!b)) L
  | none => .no
theorem eqD_ok {ι : List Addr} {H : Hp} {L : LH} {x y : PV} {u v : V} {b : Bool} (w : Wd K ga ι L H) (rx : VR K ga ι H x u) (ry : VR K ga ι H y v) (h : eqD L x y = some b) : ∃ d e, Dp K H u d ∧ Dp K H v e ∧ SeqAt.shaped d = true ∧ SeqAt.shaped e = true ∧ b = PyData.eqv d e := by
  unfold eqD at h
  split at h
  · rename_i d e h1 h2
    split at h
    · rename_i hs
      cases h
      exact ⟨d, e, dat_ok w _ _ _ _ rx h1, dat_ok w _ _ _ _ ry h2, hs.1, hs.2, rfl⟩
    · cases h
  · cases h
theorem eqL : OpL K ga eqF (rEqD K) := by
  intro W ι L H σ x y u v Q w rx ry g
  unfold eqF at g
  split at g
  · rename_i b hb
    obtain ⟨d, e, h1, h2, h3, h4, rfl⟩ := eqD_ok w rx ry hb
    exact ⟨d, e, h1, h2, h3, h4, g.ok w vrb⟩
  · exact g.elim
theorem neL : OpL K ga neF (rNeD K) := by
  intro W ι L H σ x y u v Q w rx ry g
  unfold neF at g
  split at g
  · rename_i b hb
    obtain ⟨d, e, h1, h2, h3, h4, rfl⟩ := eqD_ok w rx ry hb
    exact ⟨d, e, h1, h2, h3, h4, g.ok w vrb⟩
  · exact g.elim
def isNon : PV → Bool
  | .non => true
  | _ => false
def isNF (x y : PV) (L : LH) : R PV := match y with
  | .non => .ok (.bl (isNon x)) L
  | _ => .no
theorem VR.isN {ι : List Addr} {H : Hp} {x : PV} {v : V} (r : VR K ga ι H x v) : decide (v = .non) = isNon x := by
  cases x with
  | non => rw [r.n]; rfl
  | bl b => rw [r.b]; rfl
  | int i => rw [r.i]; rfl
  | str z => rw [r.s]; rfl
  | tup xs => obtain ⟨a, ys, rfl, _⟩ := r; rfl
  | rol xs => obtain ⟨a, ys, rfl, _⟩ := r; rfl
  | obj n => obtain ⟨a, _, rfl⟩ := r; rfl
  | glo x => have e : v = .ref (ga x) := by simpa [VR] using r
             subst e; rfl
  | ty n => have e : v = .ty n := by simpa [VR] using r
            subst e; rfl
theorem isNL : OpL K ga isNF (fun x y H Q => y = .non ∧ Q (.bl (decide (x = .non))) H) := by
  intro W ι L H σ x y u v Q w rx ry g
  unfold isNF at g
  split at g
  · refine ⟨ry.n, ?_⟩
    rw [rx.isN]
    exact g.ok w vrb
  · exact g.elim
def getK (kvs : List (Key × PV)) (k : Key) : Option PV := (kvs.find? fun kv => decide (kv.1 = k)).map (·.2)
def toK : PV → Option Key
  | .int i => some (.inl i)
  | .str z => some (.inr z)
  | _ => none
theorem toK_ok {ι : List Addr} {H : Hp} {x : PV} {v : V} {k : Key} (r : VR K ga ι H x v) (e : toK x = some k) : v = kV k := by
  cases x <;> simp [toK] at e <;> subst e
  · exact r.i
  · exact r.s
theorem DRs.get {ι : List Addr} {H : Hp} (k : Key) : ∀ {kvs : List (Key × PV)} {l : List (Key × V)}, DRs K ga ι H kvs l → (getK kvs k = none ∧ valV l k = none) ∨ ∃ x v, getK kvs k = some x ∧ valV l k = some v ∧ VR K ga ι H x v
  | [], _, h => by cases (show _ = [] from h); exact .inl ⟨rfl, rfl⟩
  | (k', x) :: kvs, _, h => by
    obtain ⟨v, r, rfl, h1, h2⟩ := h
    unfold getK valV
    simp only [List.find?_cons]
    by_cases e : k' = k
    · subst e
      simp only [decide_true]
      exact .inr ⟨x, v, rfl, rfl, h1⟩
    · simp only [e, decide_false]
      exact DRs.get k h2
def putD (kvs : List (Key × PV)) (k : Key) (v : PV) : List (Key × PV) := if (getK kvs k).isSome then kvs.map fun kv => if kv.1 = k then (kv.1, v) else kv else kvs ++ [(k, v)]
theorem dct_at {ι : List Addr} {L : LH} {H : Hp} {n : Nat} {kvs : List (Key × PV)} {v : V} (w : Wd K ga ι L H) (r : VR K ga ι H (.obj n) v) (hl : L[n]? = some (.dct kvs)) : ∃ a l, v = .ref a ∧ ι[n]? = some a ∧ H a = some (.dK l) ∧ DRs K ga ι H kvs l := by
  obtain ⟨a, h1, rfl⟩ := r
  obtain ⟨ho, q1, l, rfl, q2⟩ := w.at_ n a _ h1 hl
  exact ⟨a, l, rfl, h1, q1, q2⟩
/-- a dict that is read: locked or not -/
def dctOf : LO → Option (List (Key × PV))
  | .dct kvs => some kvs
  | .fdct kvs => some kvs
  | _ => none
theorem dct_rd {ι : List Addr} {L : LH} {H : Hp} {n : Nat} {o : LO} {kvs : List (Key × PV)} {v : V} (w : Wd K ga ι L H) (r : VR K ga ι H (.obj n) v) (hl : L[n]? = some o) (hd : dctOf o = some kvs) : ∃ a l, v = .ref a ∧ ι[n]? = some a ∧ Rd H a (.dK l) ∧ DRs K ga ι H kvs l := by
  obtain ⟨a, h1, rfl⟩ := r
  obtain ⟨ho, q1, q2⟩ := w.at_ n a _ h1 hl
  cases o with
  | dct kvs' => cases hd; obtain ⟨l, rfl, q2⟩ := q2; exact ⟨a, l, rfl, h1, .inl q1, q2⟩
  | fdct kvs' => cases hd; obtain ⟨od, l, rfl, q2⟩ := q2; exact ⟨a, l, rfl, h1, .inr ⟨od, q1⟩, q2⟩
  | _ => cases hd
theorem DGet.r {H : Hp} {a : Addr} {kvs : List (Key × V)} {k : Key} (e : Rd H a (.dK kvs)) : DGet H a (kV k) (valV kvs k) := .inl ⟨kvs, k, e, rfl, rfl⟩
def ixF (x y : PV) (L : LH) : R PV := match x, y with
  | .tup xs, .int i => (match atI xs i with
    | some v => .ok v L
    | none => .no)
  | .rol xs, .int i => (match atI xs i with
    | some v => .ok v L
    | none => .no)
  | .str z, .int i => if z.length ≤ sizeLine then (match atI z.cps.toList i with
    | some c => .ok (.str ⟨#[c]⟩) L
    | none => .no) else .no
  | .obj n, y => (match L[n]? with
    | some (.lst xs) => (match y with
      | .int i => (match atI xs i with
        | some v => .ok v L
        | none => .no)
      | _ => .no)
    | some o => (match dctOf o, toK y with
      | some kvs, some k => (match getK kvs k with
        | some v => .ok v L
        | none => .no)
      | _, _ => .no)
    | none => .no)
  | _, _ => .no
theorem VRs.atI {ι : List Addr} {H : Hp} {xs : List PV} {vs : List V} {i : Int} {x : PV} (r : VRs K ga ι H xs vs) (h : L2.atI xs i = some x) : ∃ v, L2.atI vs i = some v ∧ VR K ga ι H x v := by
  unfold L2.atI at h ⊢
  rw [← r.len]
  cases e : ixN xs.length i with
  | none => rw [e] at h; cases h
  | some j => rw [e] at h; exact r.get h
end
end FL
namespace FL
open PySem PySem.Spec PyProof.Rows L2
theorem PE.or {X : Cx} {e : Expr} {t t' : TE} (h : PE X e t) (h' : PE X e t') : PE X e (fun σ H Q => t σ H Q ∨ t' σ H Q) := ⟨fun pins s σ H Q I z => z.elim (h.run pins s σ H Q I) (h'.run pins s σ H Q I)⟩
theorem PS.or {X : Cx} {e : Stmt} {t t' : TS} (h : PS X e t) (h' : PS X e t') : PS X e (fun D σ H => t D σ H ∨ t' D σ H) := ⟨fun pins s σ H D I z => z.elim (h.run pins s σ H D I) (h'.run pins s σ H D I)⟩
section
variable {X : Cx} {Z : Zs} {W : WX} {e o a b i : Expr} {ma mb mo mi me : ME} {pos cpos apos : Pos} {es : List Expr} {mr : MA} {K : PySem.W.Frag} {ga : Ga}
def isDct (x : PV) (L : LH) : Bool := match x with
  | .obj n => match L[n]? with
    | some o => (dctOf o).isSome
    | none => false
  | _ => false
theorem isDct_at {ι : List Addr} {L : LH} {H : Hp} {x : PV} {v : V} (w : Wd K ga ι L H) (r : VR K ga ι H x v) (h : isDct x L = true) : ∃ n o kvs a l, x = .obj n ∧ L[n]? = some o ∧ dctOf o = some kvs ∧ v = .ref a ∧ ι[n]? = some a ∧ Rd H a (.dK l) ∧ DRs K ga ι H kvs l := by
  unfold isDct at h
  split at h
  · split at h
    · rename_i n o hl
      obtain ⟨kvs, hk⟩ := Option.isSome_iff_exists.mp h
      obtain ⟨a, l, h1, h2, h3, h4⟩ := dct_rd w r hl hk
      exact ⟨_, o, kvs, a, l, rfl, hl, hk, h1, h2, h3, h4⟩
    · cases h
  · cases h
theorem ixSeqL {ι : List Addr} {L : LH} {H : Hp} {x y : PV} {u v : V} {σ : L2.St} {Q : VK} (w : Wd K ga ι L H) (rx : VR K ga ι H x u) (ry : VR K ga ι H y v) (hd : isDct x L = false) (g : gd K ga W (VR K ga) (ixF x y L) ι H σ fun _ _ _ z H' => Q z H') : rIx K u v H Q := by
  unfold ixF at g
  split at g
  · rename_i xs i
    split at g
    · rename_i z hz
      obtain ⟨a, ys, rfl, h1, h2⟩ := rx
      obtain ⟨z', e1, e2⟩ := h2.atI hz
      exact .inr (.inl ⟨a, ys, i, z', rfl, ry.i, h1, e1, g.ok w e2⟩)
    · exact g.elim
  · rename_i xs i
    split at g
    · rename_i z hz
      obtain ⟨a, ys, rfl, h1, h2⟩ := rx
      obtain ⟨z', e1, e2⟩ := h2.atI hz
      exact .inl ⟨a, ys, i, z', rfl, ry.i, h1.sq, e1, g.ok w e2⟩
    · exact g.elim
  · split at g
    · rename_i hl
      split at g
      · rename_i c hc
        exact .inr (.inr ⟨_, _, c, rx.s, ry.i, hl, hc, g.ok w vrs⟩)
      · exact g.elim
    · exact g.elim
  · split at g
    · rename_i hl
      split at g
      · split at g
        · rename_i z hz
          obtain ⟨a, ys, rfl, _, h1, h2⟩ := lst_at w rx hl
          obtain ⟨z', e1, e2⟩ := h2.atI hz
          exact .inl ⟨a, ys, _, z', rfl, ry.i, SqL.of h1, e1, g.ok w e2⟩
        · exact g.elim
      · exact g.elim
    · rename_i o hnl hl
      split at g
      · rename_i kvs k hd1 hk
        unfold isDct at hd
        simp only [hl, hd1] at hd
        cases hd
      · exact g.elim
    · exact g.elim
  · exact g.elim
theorem fe_ix (hu : X.A.units + 1 < cLine) (ha : FE Z X W a ma) (hb : FE Z X W b mb) (hs : PlainIx b) : FE Z X W (.Subscript a b pos) (eOp ixF ma mb) :=
  PE.imp (PE.or (pe_ix ix_seq ha hb hs) (pe_dget hu ha hb hs)) fun σ H Q ⟨ι, L, τ, w, s, g⟩ => by
    cases hD : (match ma τ L with | .ok x L1 => (match mb τ L1 with | .ok _ L2 => isDct x L2 | _ => false) | _ => false) with
    | false =>
      refine .inl ⟨ι, L, τ, w, s, gd.bind g fun x L1 ι1 u H1 e1 ext1 w1 r1 g1 => ⟨ι1, L1, τ, w1, s.up ext1, gd.bind g1 fun y L2 ι2 v H2 e2 ext2 w2 r2 g2 => ?_⟩⟩
      rw [e1] at hD; simp only [e2] at hD
      exact ixSeqL w2 (r1.up ext2) r2 hD g2
    | true =>
      refine .inr ⟨ι, L, τ, w, s, gd.bind g fun x L1 ι1 u H1 e1 ext1 w1 r1 g1 => ⟨ι1, L1, τ, w1, s.up ext1, gd.bind g1 fun y L2 ι2 v H2 e2 ext2 w2 r2 g2 => ?_⟩⟩
      rw [e1] at hD; simp only [e2] at hD
      obtain ⟨n, o, kvs, a, l, rfl, hl, hk, rfl, hn, h3, h4⟩ := isDct_at w2 (r1.up ext2) hD
      unfold ixF at g2
      cases o with
      | dct kvs' =>
        simp only [hl, dctOf] at g2
        cases hk
        cases hy : toK y with
        | none => rw [hy] at g2; exact g2.elim
        | some k =>
          rw [hy] at g2
          obtain rfl := toK_ok r2 hy
          rcases h4.get k with ⟨q1, q2⟩ | ⟨z, z', q1, q2, q3⟩
          · simp only [q1] at g2; exact g2.elim
          · simp only [q1] at g2
            exact ⟨a, z', rfl, by rw [← q2]; exact DGet.r h3, g2.ok w2 q3⟩
      | fdct kvs' =>
        simp only [hl, dctOf] at g2
        cases hk
        cases hy : toK y with
        | none => rw [hy] at g2; exact g2.elim
        | some k =>
          rw [hy] at g2
          obtain rfl := toK_ok r2 hy
          rcases h4.get k with ⟨q1, q2⟩ | ⟨z, z', q1, q2, q3⟩
          · simp only [q1] at g2; exact g2.elim
          · simp only [q1] at g2
            exact ⟨a, z', rfl, by rw [← q2]; exact DGet.r h3, g2.ok w2 q3⟩
      | _ => cases hk
abbrev MO := Sl → LH → R (Option Int)
abbrev FO (Z : Zs) (X : Cx) (W : WX) (e : Option Expr) (m : MO) : Prop := PO X e (tM X.K Z W (fun _ _ (a b : Option Int) => a = b) m)
theorem PO.imp {X : Cx} {e : Option Expr} {t t' : TO} (h : PO X e t) (q : ∀ σ H Q, t' σ H Q → t σ H Q) : PO X e t' := ⟨fun pins s σ H Q I z => h.run pins s σ H Q I (q _ _ _ z)⟩
def oN : MO := fun _ L => .ok none L
def oS (m : ME) : MO := fun τ L => (m τ L).bind fun x L1 => match x with
  | .int i => .ok (some i) L1
  | _ => .no
theorem fo_none : FO Z X W none oN := PO.imp po_none fun σ H Q ⟨ι, L, τ, w, s, g⟩ => g.ok w rfl
theorem fo_some (h : FE Z X W e me) : FO Z X W (some e) (oS me) := PO.imp (po_some h) fun σ H Q h => tM.bind h fun τ x L1 ι1 u H1 w1 s1 r1 g1 => by
  cases x with
  | int i => exact ⟨i, r1.i, g1.ok w1 rfl⟩
  | _ => exact g1.elim
def cut {α : Type} (xs : List α) (lo hi : Option Int) : List α := (xs.drop (HT.sIx xs.length 0 lo)).take (HT.sIx xs.length xs.length hi - HT.sIx xs.length 0 lo)
theorem VRs.cut {ι : List Addr} {H : Hp} {xs : List PV} {vs : List V} (r : VRs K ga ι H xs vs) (lo hi : Option Int) : VRs K ga ι H (FL.cut xs lo hi) (cutV vs lo hi) := by
  unfold FL.cut cutV
  rw [← r.len]
  exact (r.drop _).take _
def slF (x : PV) (lo hi : Option Int) (L : LH) : R PV := match x with
  | .tup xs => .ok (.tup (cut xs lo hi)) L
  | .rol xs => .ok (.obj L.length) (L ++ [.lst (cut xs lo hi)])
  | .str z => if z.length ≤ sizeLine then .ok (.str (cutS z lo hi)) L else .no
  | .obj n => (match L[n]? with
    | some (.lst xs) => .ok (.obj L.length) (L ++ [.lst (cut xs lo hi)])
    | _ => .no)
  | _ => .no
def eSl (mo : ME) (ml mh : MO) : ME := fun τ L => (mo τ L).bind fun x L1 => (ml τ L1).bind fun lo L2 => (mh τ L2).bind fun hi L3 => slF x lo hi L3
theorem fe_sl {lo hi : Option Expr} {ml mh : MO} {p2 : Pos} (he : FE Z X W e me) (hl : FO Z X W lo ml) (hh : FO Z X W hi mh) : FE Z X W (.Subscript e (.Slice lo hi none p2) pos) (eSl me ml mh) :=
  PE.imp (pe_slice (sl_list.or (sl_tupA.or sl_str)) he hl hh) fun σ H Q h => tM.bind h fun τ x L1 ι1 u H1 w1 s1 r1 g1 => ⟨ι1, L1, τ, w1, s1, gd.bind g1 fun l L2 ι2 l' H2 _ e2 w2 el g2 => ⟨ι2, L2, τ, w2, s1.up e2, gd.bind g2 fun h L3 ι3 h' H3 _ e3 w3 eh g3 => by
    cases el; cases eh
    have r3 := (r1.up e2).up e3
    cases x with
    | tup xs =>
      obtain ⟨a, ys, rfl, h1, h2⟩ := r3
      refine .inr (.inl ⟨a, ys, rfl, h1, fun hw => ?_, fun _ p hp => new_tup w3 (h2.cut l h) g3 hp⟩)
      have ec : cut xs l h = xs := by
        unfold cut
        rw [← h2.len] at hw
        rw [hw.1, hw.2, List.drop_zero, Nat.sub_zero, List.take_length]
      unfold slF at g3
      dsimp only at g3
      rw [ec] at g3
      exact g3.ok w3 ⟨a, ys, rfl, h1, h2⟩
    | str z =>
      unfold slF at g3
      dsimp only at g3
      split at g3
      · rename_i hz
        exact .inr (.inr ⟨z, r3.s, hz, g3.ok w3 vrs⟩)
      · exact g3.elim
    | rol xs =>
      obtain ⟨a, ys, rfl, h1, h2⟩ := r3
      exact .inl ⟨a, ys, rfl, h1.sq, fun p hp => new_lst w3 (h2.cut l h) g3 hp⟩
    | obj n =>
      unfold slF at g3
      dsimp only at g3
      split at g3
      · rename_i hln
        obtain ⟨a, ys, rfl, _, h1, h2⟩ := lst_at w3 r3 hln
        exact .inl ⟨a, ys, rfl, SqL.of h1, fun p hp => new_lst w3 (h2.cut l h) g3 hp⟩
      · exact g3.elim
    | _ => exact g3.elim⟩⟩
def setL (o i v : PV) (L : LH) : Option LH := match o with
  | .obj n => (match L[n]? with
    | some (.lst xs) => (match i with
      | .int k => (match ixN xs.length k with
        | some j => some (L.set n (.lst (xs.set j v)))
        | none => none)
      | _ => none)
    | some (.dct kvs) => (match toK i with
      | some k => if kvs.length < sizeLine then some (L.set n (.dct (putD kvs k v))) else none
      | none => none)
    | _ => none)
  | _ => none
def gSb (mo mi : ME) : MG := fun x τ L => (mo τ L).bind0 fun o L1 => (mi τ L1).bind0 fun i L2 => match setL o i x L2 with
  | some L3 => .ok τ L3
  | none => .no
def rSetA : V → V → V → Hp → (Hp → Prop) → Prop := fun o i v H Q => rSetL o i v H Q ∨ ∃ a H', o = .ref a ∧ DPut H a i v H' ∧ Q H'
theorem set_A (hu : X.A.units + 1 < cLine) : PSet X rSetA := by
  intro pins s σ H o i v ov iv u Q I ro ri rv h
  rcases h with h | ⟨a, H', rfl, g, q⟩
  · exact set_list pins s σ H o i v ov iv u Q I ro ri rv h
  · obtain rfl : ov = Value.ref a := ro
    exact d_setItem hu I g ri rv fun s4 I4 => ⟨H', I4, q⟩
theorem DRs.len {ι : List Addr} {H : Hp} : ∀ {kvs : List (Key × PV)} {l : List (Key × V)}, DRs K ga ι H kvs l → kvs.length = l.length
  | [], _, h => by cases (show _ = [] from h); rfl
  | x :: xs, _, h => by obtain ⟨v, r, rfl, _, h2⟩ := h; simp [DRs.len h2]
theorem DRs.app {ι : List Addr} {H : Hp} {k : Key} {x : PV} {v : V} (hx : VR K ga ι H x v) : ∀ {kvs : List (Key × PV)} {l : List (Key × V)}, DRs K ga ι H kvs l → DRs K ga ι H (kvs ++ [(k, x)]) (l ++ [(k, v)])
  | [], _, h => by cases (show _ = [] from h); exact ⟨v, [], rfl, hx, rfl⟩
  | y :: xs, _, h => by obtain ⟨u, r, rfl, h1, h2⟩ := h; exact ⟨u, _, rfl, h1, DRs.app hx h2⟩
theorem DRs.put1 {ι : List Addr} {H : Hp} {k : Key} {x : PV} {v : V} (hx : VR K ga ι H x v) : ∀ {kvs : List (Key × PV)} {l : List (Key × V)}, DRs K ga ι H kvs l → DRs K ga ι H (kvs.map fun kv => if kv.1 = k then (kv.1, x) else kv) (l.map fun kv => if kv.1 = k then (kv.1, v) else kv)
  | [], _, h => by cases (show _ = [] from h); rfl
  | y :: xs, _, h => by
    obtain ⟨u, r, rfl, h1, h2⟩ := h
    by_cases e : y.1 = k
    · refine ⟨v, r.map fun kv => if kv.1 = k then (kv.1, v) else kv, ?_, ?_, ?_⟩
      · simp [e]
      · simp only [List.map_cons, e, if_true]; exact hx
      · exact DRs.put1 hx h2
    · refine ⟨u, r.map fun kv => if kv.1 = k then (kv.1, v) else kv, ?_, ?_, ?_⟩
      · simp [e]
      · simp only [e, if_false]; exact h1
      · exact DRs.put1 hx h2
theorem DRs.put {ι : List Addr} {H : Hp} {k : Key} {x : PV} {v : V} (hx : VR K ga ι H x v) {kvs : List (Key × PV)} {l : List (Key × V)} (h : DRs K ga ι H kvs l) : DRs K ga ι H (putD kvs k x) (putK l k v) := by
  unfold putD putK
  rw [valV_any]
  rcases h.get k with ⟨q1, q2⟩ | ⟨z, z', q1, q2, q3⟩
  · rw [q1, q2]; exact h.app hx
  · rw [q1, q2]; exact h.put1 hx
theorem setL_ok {ι : List Addr} {L L' : LH} {H : Hp} {o i x : PV} {ov iv v : V} (w : Wd K ga ι L H) (ro : VR K ga ι H o ov) (ri : VR K ga ι H i iv) (rv : VR K ga ι H x v) (h : setL o i x L = some L') {Q : Hp → Prop}
    (q : ∀ H', Ext K ι H ι H' → Wd K ga ι L' H' → Q H') : rSetA ov iv v H Q := by
  unfold setL at h
  split at h
  · rename_i n
    split at h
    · rename_i xs hl
      split at h
      · rename_i k
        split at h
        · rename_i j hj
          cases h
          obtain ⟨a, ys, rfl, hn, h1, h2⟩ := lst_at w ro hl
          have e := Ext.set (K := K) (o := .lst (ys.set j v)) hn h1 True.intro
          exact .inl ⟨a, ys, k, j, rfl, ri.i, h1, by rw [← h2.len]; exact hj, q _ e (w.set hn h1 True.intro ⟨_, rfl, (h2.up e).set (rv.up e) j⟩)⟩
        · cases h
      · cases h
    · rename_i kvs hl
      split at h
      · rename_i k hk
        split at h
        · rename_i hz
          cases h
          obtain ⟨a, l, rfl, hn, h1, h2⟩ := dct_at w ro hl
          obtain rfl := toK_ok ri hk
          have e := Ext.set (K := K) (o := .dK (putK l k v)) hn h1 True.intro
          exact .inr ⟨a, _, rfl, DPut.k h1 (by rw [← h2.len]; exact hz), q _ e (w.set hn h1 True.intro ⟨_, rfl, DRs.put (rv.up e) (h2.up e)⟩)⟩
        · cases h
      · cases h
    · cases h
  · cases h
theorem fg_sub (hu : X.A.units + 1 < cLine) (ho : FE Z X W o mo) (hi : FE Z X W i mi) (ha : ∀ v, assign (.Subscript o i pos) X.env v = (do
      let ov ← holding [v] (eval o X.env)
      let iv ← holding [v, ov] (eval i X.env)
      standAt pos
      holding [v, ov, iv] (setItem ov iv v)
      release [v, ov, iv] []) := by intro _; rfl) : FG Z X (.Subscript o i pos) (gSb mo mi) :=
  PG.imp (pg_sub ho hi (set_A hu) ha) fun v σ H Q ⟨ι, L, τ, x, w, s, r, g⟩ => by
    unfold gSb at g
    refine ⟨ι, L, τ, w, s, ?_⟩
    cases h1 : mo τ L with
    | ex => rw [h1] at g; exact g.elim
    | no => rw [h1] at g; exact g.elim
    | ok ox L1 =>
      rw [h1] at g
      have g : gd X.K Z.f W0 (relS X.K Z) ((mi τ L1).bind0 fun i L2 => match setL ox i x L2 with | some L3 => .ok τ L3 | none => .no) ι H σ fun _ _ _ σ' H' => Q σ' H' := g
      intro ι1 H1 ov e1 w1 r1
      refine ⟨ι1, L1, τ, w1, s.up e1, ?_⟩
      cases h2 : mi τ L1 with
      | ex => rw [h2] at g; exact g.elim
      | no => rw [h2] at g; exact g.elim
      | ok ix L2 =>
        rw [h2] at g
        have g : gd X.K Z.f W0 (relS X.K Z) (match setL ox ix x L2 with | some L3 => .ok τ L3 | none => .no) ι H σ fun _ _ _ σ' H' => Q σ' H' := g
        intro ι2 H2 iv e2 w2 r2
        cases h3 : setL ox ix x L2 with
        | none => rw [h3] at g; exact g.elim
        | some L3 =>
          rw [h3] at g
          have e12 := e1.trans e2
          exact setL_ok w2 (r1.up e2) r2 (r.up e12) h3 fun H3 e3 w3 => g ι2 H3 σ (e12.trans e3) w3 (s.up (e12.trans e3))
def MtL (K : PySem.W.Frag) (ga : Ga) (f : PV → List PV → LH → R PV) (r : V → List V → Hp → VK → Prop) : Prop := ∀ W ι L H σ x u xs us Q, Wd K ga ι L H → VR K ga ι H x u → VRs K ga ι H xs us → gd K ga W (VR K ga) (f x xs L) ι H σ (fun _ _ _ z H' => Q z H') → r u us H Q
def TyL (K : PySem.W.Frag) (ga : Ga) (p : PV → LH → Bool) (T : String) : Prop := ∀ ι L H x u, Wd K ga ι L H → VR K ga ι H x u → p x L = true → tyV K T u H
def isDc (x : PV) (L : LH) : Bool := match x with
  | .obj n => match L[n]? with
    | some (.dct _) => true
    | _ => false
  | _ => false
theorem ty_dc : TyL K ga isDc "dict" := by
  intro ι L H x u w r h
  unfold isDc at h
  split at h
  · split at h
    · rename_i hl
      obtain ⟨a, ys, rfl, _, h1, _⟩ := dct_at w r hl
      exact .inr (.inr (.inl ⟨rfl, .inl ⟨_, h1⟩⟩))
    · cases h
  · cases h
def eBm (p : PV → LH → Bool) (f : PV → List PV → LH → R PV) (mo : ME) (ma : MA) : ME := fun τ L => (mo τ L).bind fun x L1 => if p x L1 = true then (ma τ L1).bind fun xs L2 => f x xs L2 else .no
theorem fe_bm0 {T id : String} {name : Str} {f : PV → List PV → LH → R PV} {r : V → List V → Hp → VK → Prop} {p : PV → LH → Bool} (pa : PlainAttrs T) (slot : Slot T name id) (hty : typeOf (.builtin id) = pure (.type "method_descriptor")) (hm : MtR X id r) (hf : MtL X.K Z.f f r) (hp : TyL X.K Z.f p T) (ho : FE Z X W o mo)
    (hbase : attributeBase o name X.env (eval o X.env) = eval o X.env := by rfl) (hline : (apos.endLine == cpos.line) = true := by rfl) :
    FE Z X W (.Call (.Attribute o name apos) [] [] cpos) (eBm p f mo aN) :=
  PE.imp (pe_bm0 pa slot hty hm ho hbase hline) fun σ H Q h => tM.bind h fun τ x L1 ι1 u H1 w1 s1 r1 g1 => by
    split at g1
    · rename_i hq
      exact ⟨hp _ _ _ _ _ w1 r1 hq, hf W ι1 L1 H1 σ x u [] [] Q w1 r1 rfl g1⟩
    · exact g1.elim
end
end FL
namespace FL
open PySem PySem.Spec PyProof.Rows L2
def CqL (K : PySem.W.Frag) (ga : Ga) (rel : List Addr → Hp → List PV → V → Prop) (f : List PV → LH → R PV) (r : List V → Hp → VK → Prop) : Prop := ∀ W ι L H σ xs u Q, Wd K ga ι L H → rel ι H xs u → gd K ga W (VR K ga) (f xs L) ι H σ (fun _ _ _ z H' => Q z H') → r [u] H Q
/-- a list to be read -/
def relL (K : PySem.W.Frag) (ga : Ga) : List Addr → Hp → List PV → V → Prop := fun ι H xs v => ∃ a ys, v = .ref a ∧ SqL K H a ys ∧ VRs K ga ι H xs ys
abbrev FL' (Z : Zs) (X : Cx) (W : WX) (e : Expr) (m : MV) : Prop := PE X e (tM X.K Z W (relL X.K Z.f) m)
def itemsL (x : PV) (L : LH) : R (List PV) := match x with
  | .rol xs => .ok xs L
  | .obj n => match L[n]? with
    | some (.lst xs) => .ok xs L
    | _ => .no
  | _ => .no
def qL (m : ME) : MV := fun τ L => (m τ L).bind fun x L1 => itemsL x L1
def eQ (f : List PV → LH → R PV) (m : MV) : ME := fun τ L => (m τ L).bind fun xs L1 => f xs L1
section
variable {X : Cx} {Z : Zs} {W : WX} {e o a b c : Expr} {ma mb me : ME} {mv : MV} {pos p : Pos} {es : List Expr} {mr : MA} {K : PySem.W.Frag} {ga : Ga} {x : Str} {id T : String} {r : List V → Hp → VK → Prop} {f : List PV → LH → R PV}
theorem fl_ofV (h : FV Z X W e mv) : FL' Z X W e mv := PE.imp h fun σ H Q ⟨ι, L, τ, w, s, g⟩ => by
  refine ⟨ι, L, τ, w, s, ?_⟩
  cases hq : mv τ L with
  | ok xs L1 =>
    rw [hq] at g
    intro ι1 H1 a ys e w1 n ni ha r z
    exact g ι1 H1 (.ref a) e w1 ⟨a, ys, rfl, SqL.of ha, r⟩
  | ex c fs L1 => rw [hq] at g; exact g
  | no => rw [hq] at g; exact g
theorem fl_ofE (h : FE Z X W e me) : FL' Z X W e (qL me) := PE.imp h fun σ H Q h => tM.bind h fun τ x L1 ι1 u H1 w1 s1 r1 g1 => by
  cases x with
  | rol xs => obtain ⟨a, ys, rfl, h1, h2⟩ := r1; exact g1.ok w1 ⟨a, ys, rfl, h1.sq, h2⟩
  | obj n =>
    cases hl : L1[n]? with
    | none => simp only [itemsL, hl] at g1; exact g1.elim
    | some o =>
      cases o with
      | lst xs =>
        simp only [itemsL, hl] at g1
        obtain ⟨a, ys, rfl, _, h1, h2⟩ := lst_at w1 r1 hl
        exact g1.ok w1 ⟨a, ys, rfl, SqL.of h1, h2⟩
      | _ => simp only [itemsL, hl] at g1; exact g1.elim
  | _ => exact g1.elim
theorem fe_B (hc : CallR X (.builtin id) r) (hf : CaL X.K Z.f f r) (hg : Gl X x) (hm : X.mg x = none) (hv : bootBuiltins x = some (.builtin id)) (ha : FA Z X W (e :: es) mr) (hn : x ≠ "__name__" := by decide) (hdb : (x == ("__debug__" : Str)) = false := by decide)
    (he : starEach (e :: es) X.env = (false, eval e X.env) :: starEach es X.env := by rfl) (hpl : (backTo pos (starEach es X.env)).any (·.1) = false := by rfl) : FE Z X W (.Call (.Name x p) (e :: es) [] pos) (eF f mr) :=
  PE.imp (pe_callB hc hg hm hv ha hn hdb he hpl) fun σ H Q h => tM.bind h fun τ xs L1 ι1 us H1 w1 s1 r1 g1 => hf W ι1 L1 H1 σ xs us Q w1 r1 g1
theorem fe_T (hc : CallR X (.type T) r) (hf : CaL X.K Z.f f r) (hg : Gl X x) (hm : X.mg x = none) (hv : bootBuiltins x = some (.type T)) (ha : FA Z X W (e :: es) mr) (hn : x ≠ "__name__" := by decide) (hdb : (x == ("__debug__" : Str)) = false := by decide)
    (he : starEach (e :: es) X.env = (false, eval e X.env) :: starEach es X.env := by rfl) (hpl : (backTo pos (starEach es X.env)).any (·.1) = false := by rfl) : FE Z X W (.Call (.Name x p) (e :: es) [] pos) (eF f mr) :=
  PE.imp (pe_callTy hc hg hm hv ha hn hdb he hpl) fun σ H Q h => tM.bind h fun τ xs L1 ι1 us H1 w1 s1 r1 g1 => hf W ι1 L1 H1 σ xs us Q w1 r1 g1
variable {rel : List Addr → Hp → List PV → V → Prop}
theorem fe_Bq (hc : CallR X (.builtin id) r) (hf : CqL X.K Z.f rel f r) (hg : Gl X x) (hm : X.mg x = none) (hv : bootBuiltins x = some (.builtin id)) (ha : PE X e (tM X.K Z W rel mv)) (hn : x ≠ "__name__" := by decide) (hdb : (x == ("__debug__" : Str)) = false := by decide)
    (hs : starEach [e] X.env = (false, eval e X.env) :: starEach [] X.env := by rfl) (hpl : (backTo pos (starEach [] X.env)).any (·.1) = false := by rfl) : FE Z X W (.Call (.Name x p) [e] [] pos) (eQ f mv) :=
  PE.imp (pe_callB hc hg hm hv (pa_cons ha pa_nil hs) hn hdb hs hpl) fun σ H Q h => tM.bind h fun τ xs L1 ι1 u H1 w1 s1 r1 g1 => hf W ι1 L1 H1 σ xs u Q w1 r1 g1
/-- a built-in class by its name -/
theorem fe_ty {n : String} (hg : Gl X x) (hm : X.mg x = none) (hv : bootBuiltins x = some (.type n)) (hn : x ≠ "__name__" := by decide) (hd : (x == ("__debug__" : Str)) = false := by decide) : FE Z X W (.Name x pos) (eC (.ty n)) := fe_c (pe_bltn (v := .ty n) hg hm hv rfl hn hd) fun _ _ => by simp [VR]
/-- a def or a class of the module by its name -/
theorem fe_glo (hg : Gl X x) (hm : X.mg x = some (.ref (Z.f x))) (hd : (x == ("__debug__" : Str)) = false := by decide) : FE Z X W (.Name x pos) (eC (.glo x)) := fe_c (pe_glob (v := .ref (Z.f x)) hg hm rfl hd) fun _ _ => by simp [VR]
def toBs : List PV → Option (List Bool)
  | [] => some []
  | .bl b :: xs => (toBs xs).map (b :: ·)
  | _ => none
theorem toBs_ok {ι : List Addr} {H : Hp} : ∀ {xs : List PV} {vs : List V} {bs : List Bool}, VRs K ga ι H xs vs → toBs xs = some bs → vs = bs.map V.bl
  | [], _, _, r, e => by cases (show _ = [] from r); simp [toBs] at e; subst e; rfl
  | x :: xs, _, bs, r, e => by
    obtain ⟨y, ys, rfl, r1, r2⟩ := r
    cases x with
    | bl b =>
      simp only [toBs] at e
      cases q : toBs xs with
      | none => rw [q] at e; cases e
      | some bs' => rw [q] at e; cases e; rw [toBs_ok r2 q, r1.b]; rfl
    | _ => simp [toBs] at e
def allF (xs : List PV) (L : LH) : R PV := match toBs xs with
  | some bs => .ok (.bl (bs.all fun b => b)) L
  | none => .no
theorem allL : CqL K ga (relL K ga) allF (rAll K) := by
  intro W ι L H σ xs u Q w ⟨a, ys, e, h1, h2⟩ g
  unfold allF at g
  split at g
  · rename_i bs hb
    obtain rfl := toBs_ok h2 hb
    exact ⟨a, bs, by rw [e], h1, g.ok w vrb⟩
  · exact g.elim
def toIs : List PV → Option (List Int)
  | [] => some []
  | .int b :: xs => (toIs xs).map (b :: ·)
  | _ => none
theorem toIs_ok {ι : List Addr} {H : Hp} : ∀ {xs : List PV} {vs : List V} {bs : List Int}, VRs K ga ι H xs vs → toIs xs = some bs → vs = bs.map V.int
  | [], _, _, r, e => by cases (show _ = [] from r); simp [toIs] at e; subst e; rfl
  | x :: xs, _, bs, r, e => by
    obtain ⟨y, ys, rfl, r1, r2⟩ := r
    cases x with
    | int b =>
      simp only [toIs] at e
      cases q : toIs xs with
      | none => rw [q] at e; cases e
      | some bs' => rw [q] at e; cases e; rw [toIs_ok r2 q, r1.i]; rfl
    | _ => simp [toIs] at e
def maxN : List Int → Int
  | [] => 0
  | x :: xs => xs.foldl max x
theorem foldl_maxN (xs : List Int) : ∀ x : Int, x ≤ xs.foldl max x ∧ (∀ y ∈ xs, y ≤ xs.foldl max x) ∧ (xs.foldl max x = x ∨ xs.foldl max x ∈ xs) := by
  induction xs with
  | nil => intro x; exact ⟨Int.le_refl _, (fun y hy => by cases hy), Or.inl rfl⟩
  | cons a xs ih =>
    intro x
    obtain ⟨h1, h2, h3⟩ := ih (max x a)
    rw [List.foldl_cons]
    refine ⟨by omega, fun y hy => ?_, ?_⟩
    · rcases List.mem_cons.mp hy with rfl | hy
      · omega
      · exact h2 y hy
    · rcases h3 with h3 | h3
      · by_cases hx : a ≤ x
        · exact .inl (by omega)
        · exact .inr (by rw [h3, show max x a = a by omega]; exact List.mem_cons_self)
      · exact .inr (List.mem_cons_of_mem _ h3)
theorem maxN_eq {ns : List Int} {m : Int} (h : m ∈ ns) (k : ∀ y ∈ ns, y ≤ m) : m = maxN ns := by
  cases ns with
  | nil => cases h
  | cons x xs =>
    obtain ⟨h1, h2, h3⟩ := foldl_maxN xs x
    show m = xs.foldl max x
    have a : m ≤ xs.foldl max x := by
      rcases List.mem_cons.mp h with rfl | h
      · exact h1
      · exact h2 _ h
    have b : xs.foldl max x ≤ m := by
      rcases h3 with h3 | h3
      · rw [h3]; exact k _ List.mem_cons_self
      · exact k _ (List.mem_cons_of_mem _ h3)
    omega
def maxF (xs : List PV) (L : LH) : R PV := match toIs xs with
  | some ns => if 0 < ns.length then .ok (.int (maxN ns)) L else .no
  | none => .no
theorem maxLL : CqL K ga (relL K ga) maxF (rMax K) := by
  intro W ι L H σ xs u Q w ⟨a, ys, e, h1, h2⟩ g
  unfold maxF at g
  split at g
  · rename_i ns hb
    split at g
    · rename_i hz
      obtain rfl := toIs_ok h2 hb
      exact ⟨a, ns, by rw [e], h1, hz, fun m hm hk => by rw [maxN_eq hm hk]; exact g.ok w vri⟩
    · exact g.elim
  · exact g.elim
def max2F (xs : List PV) (L : LH) : R PV := match xs with
  | [.int i, .int j] => .ok (.int (if j > i then j else i)) L
  | _ => .no
def min2F (xs : List PV) (L : LH) : R PV := match xs with
  | [.int i, .int j] => .ok (.int (if j < i then j else i)) L
  | _ => .no
theorem VRs.two {ι : List Addr} {H : Hp} {x y : PV} {us : List V} (r : VRs K ga ι H [x, y] us) : ∃ u v, us = [u, v] ∧ VR K ga ι H x u ∧ VR K ga ι H y v := by
  obtain ⟨u, r, rfl, r1, v, r', rfl, r2, r3⟩ := r
  cases (show r' = [] from r3)
  exact ⟨u, v, rfl, r1, r2⟩
theorem VRs.one {ι : List Addr} {H : Hp} {x : PV} {us : List V} (r : VRs K ga ι H [x] us) : ∃ u, us = [u] ∧ VR K ga ι H x u := by
  obtain ⟨u, r, rfl, r1, r3⟩ := r
  cases (show r = [] from r3)
  exact ⟨u, rfl, r1⟩
theorem max2L : CaL K ga max2F (fun xs H Q => ∃ i j, xs = [.int i, .int j] ∧ Q (.int (if j > i then j else i)) H) := by
  intro W ι L H σ xs us Q w r g
  unfold max2F at g
  split at g
  · obtain ⟨u, v, rfl, r1, r2⟩ := r.two
    exact ⟨_, _, by rw [r1.i, r2.i], g.ok w vri⟩
  · exact g.elim
theorem min2L : CaL K ga min2F (fun xs H Q => ∃ i j, xs = [.int i, .int j] ∧ Q (.int (if j < i then j else i)) H) := by
  intro W ι L H σ xs us Q w r g
  unfold min2F at g
  split at g
  · obtain ⟨u, v, rfl, r1, r2⟩ := r.two
    exact ⟨_, _, by rw [r1.i, r2.i], g.ok w vri⟩
  · exact g.elim
def intF (xs : List PV) (L : LH) : R PV := match xs with
  | [.int i] => .ok (.int i) L
  | [.bl k] => .ok (.int (if k then 1 else 0)) L
  | _ => .no
theorem intL : CaL K ga intF (fun xs H Q => (∃ i, xs = [.int i] ∧ Q (.int i) H) ∨ ∃ k, xs = [.bl k] ∧ Q (.int (if k then 1 else 0)) H) := by
  intro W ι L H σ xs us Q w r g
  unfold intF at g
  split at g
  · obtain ⟨u, rfl, r1⟩ := r.one
    exact .inl ⟨_, by rw [r1.i], g.ok w vri⟩
  · obtain ⟨u, rfl, r1⟩ := r.one
    exact .inr ⟨_, by rw [r1.b], g.ok w vri⟩
  · exact g.elim
def lenF (xs : List PV) (L : LH) : R PV := match xs with
  | [.str z] => if z.length ≤ sizeLine then .ok (.int z.length) L else .no
  | [.tup ys] => .ok (.int ys.length) L
  | [.rol ys] => .ok (.int ys.length) L
  | [.obj n] => (match L[n]? with
    | some (.lst ys) => .ok (.int ys.length) L
    | some (.dct kvs) => .ok (.int kvs.length) L
    | _ => .no)
  | _ => .no
def rLenA (K : PySem.W.Frag) : List V → Hp → VK → Prop := fun xs H Q => (∃ x n, xs = [x] ∧ LenV K x H n ∧ Q (.int n) H) ∨ ∃ a kvs, xs = [V.ref a] ∧ H a = some (.dK kvs) ∧ Q (.int kvs.length) H
theorem cr_lenA : CallR X (.builtin "len") (rLenA X.K) := call_len.or call_lenD
theorem lenL : CaL K ga lenF (rLenA K) := by
  intro W ι L H σ xs us Q w r g
  unfold lenF at g
  split at g
  · obtain ⟨u, rfl, r1⟩ := r.one
    split at g
    · rename_i hz
      exact .inl ⟨_, _, rfl, by rw [r1.s]; exact ⟨hz, rfl⟩, g.ok w vri⟩
    · exact g.elim
  · obtain ⟨u, rfl, r1⟩ := r.one
    obtain ⟨a, ys, rfl, h1, h2⟩ := r1
    exact .inl ⟨_, _, rfl, .inr ⟨_, h1, rfl⟩, by rw [← h2.len]; exact g.ok w vri⟩
  · obtain ⟨u, rfl, r1⟩ := r.one
    obtain ⟨a, ys, rfl, h1, h2⟩ := r1
    exact .inl ⟨_, _, rfl, .inl ⟨_, h1.sq, rfl⟩, by rw [← h2.len]; exact g.ok w vri⟩
  · obtain ⟨u, rfl, r1⟩ := r.one
    split at g
    · rename_i hl
      obtain ⟨a, ys, rfl, _, h1, h2⟩ := lst_at w r1 hl
      exact .inl ⟨_, _, rfl, .inl ⟨_, SqL.of h1, rfl⟩, by rw [← h2.len]; exact g.ok w vri⟩
    · rename_i hl
      obtain ⟨a, l, rfl, _, h1, h2⟩ := dct_at w r1 hl
      exact .inr ⟨a, l, rfl, h1, by rw [← h2.len]; exact g.ok w vri⟩
    · exact g.elim
  · exact g.elim
def reprF (xs : List PV) (L : LH) : R PV := match xs with
  | [x] => (match dat L 60 x with
    | some d => if d.showable = true ∧ d.hasDict = false ∧ d.depth ≤ 60 ∧ d.shown.length ≤ sizeLine then .ok (.str d.shown) L else .no
    | none => .no)
  | _ => .no
theorem reprL : CaL K ga reprF (rRepr K) := by
  intro W ι L H σ xs us Q w r g
  unfold reprF at g
  split at g
  · obtain ⟨u, rfl, r1⟩ := r.one
    split at g
    · rename_i d hd
      split at g
      · rename_i hz
        exact ⟨u, d, rfl, dat_ok w _ _ _ _ r1 hd, hz.1, hz.2.1, hz.2.2.1, hz.2.2.2, g.ok w vrs⟩
      · exact g.elim
    · exact g.elim
  · exact g.elim
end
end FL
namespace FL
open PySem PySem.Spec PyProof.Rows L2
section
variable {X : Cx} {Z : Zs} {W : WX} {e o a b c : Expr} {ma mb mc me mo : ME} {mv : MV} {pos p : Pos} {es : List Expr} {mr : MA} {tc : MT} {K : PySem.W.Frag} {ga : Ga} {x : Str}
def truP (x : PV) (L : LH) : Option Bool := match x with
  | .non => some false
  | .bl b => some b
  | .int i => some (i != 0)
  | .str z => if z.length ≤ sizeLine then some ((z.length : Int) != 0) else none
  | .tup xs => some (!xs.isEmpty)
  | .rol xs => some (!xs.isEmpty)
  | .obj n => match L[n]? with
    | some (.lst xs) => some (!xs.isEmpty)
    | some (.dct kvs) => some (!kvs.isEmpty)
    | _ => none
  | _ => none
theorem VRs.emp {ι : List Addr} {H : Hp} {xs : List PV} {vs : List V} (r : VRs K ga ι H xs vs) : xs.isEmpty = vs.isEmpty := by
  cases xs with
  | nil => cases (show vs = [] from r); rfl
  | cons x xs => obtain ⟨_, _, rfl, _⟩ := r; rfl
theorem truP_ok {ι : List Addr} {L : LH} {H : Hp} {x : PV} {v : V} {k : Bool} (w : Wd K ga ι L H) (r : VR K ga ι H x v) (h : truP x L = some k) : TruV K v H k := by
  unfold truP at h
  split at h
  · cases h; rw [r.n]; rfl
  · cases h; rw [r.b]; rfl
  · cases h; rw [r.i]; rfl
  · split at h
    · rename_i hz
      cases h; rw [r.s]; exact ⟨hz, rfl⟩
    · cases h
  · cases h
    obtain ⟨a, ys, rfl, h1, h2⟩ := r
    exact .inr (.inl ⟨ys, h1, by rw [h2.emp]⟩)
  · cases h
    obtain ⟨a, ys, rfl, h1, h2⟩ := r
    exact .inl ⟨ys, h1.sq, by rw [h2.emp]⟩
  · split at h
    · rename_i hl
      cases h
      obtain ⟨a, ys, rfl, _, h1, h2⟩ := lst_at w r hl
      exact .inl ⟨ys, SqL.of h1, by rw [h2.emp]⟩
    · rename_i kvs hl
      cases h
      obtain ⟨a, l, rfl, _, h1, h2⟩ := dct_at w r hl
      refine .inr (.inr ⟨l, h1, ?_⟩)
      cases kvs with
      | nil => cases (show l = [] from h2); rfl
      | cons x xs => obtain ⟨_, _, rfl, _⟩ := h2; rfl
    · cases h
  · cases h
def tru (m : ME) : MT := fun τ L => (m τ L).bind fun x L1 => match truP x L1 with
  | some k => .ok k L1
  | none => .no
theorem ft_tru (ha : FE Z X W a ma) (he : ∀ whole, isTrue a X.env whole = (do let v ← whole; standAt a.pos; holding [v] (truthy v)) := by intro _; rfl) : FT Z X W a (tru ma) :=
  PT.imp (pt_truth ha he) fun σ H Q h => tM.bind h fun τ x L1 ι1 u H1 w1 s1 r1 g1 => by
    cases hq : truP x L1 with
    | none => rw [hq] at g1; exact g1.elim
    | some k => rw [hq] at g1; exact ⟨k, truP_ok w1 r1 hq, g1.ok w1 rfl⟩
def eOr (ma mb : ME) : ME := fun τ L => (ma τ L).bind fun x L1 => match truP x L1 with
  | some k => if k = true then .ok x L1 else mb τ L1
  | none => .no
def eAnd (ma mb : ME) : ME := fun τ L => (ma τ L).bind fun x L1 => match truP x L1 with
  | some k => if k = true then mb τ L1 else .ok x L1
  | none => .no
def eNot (ma : ME) : ME := fun τ L => (ma τ L).bind fun x L1 => match truP x L1 with
  | some k => .ok (.bl (!k)) L1
  | none => .no
theorem fe_and {rest : List Expr} (ha : FE Z X W a ma) (hb : FE Z X W (.BoolOp .And (b :: rest) pos) mb) : FE Z X W (.BoolOp .And (a :: b :: rest) pos) (eAnd ma mb) :=
  PE.imp (pe_andT ha hb) fun σ H Q h => tM.bind h fun τ x L1 ι1 u H1 w1 s1 r1 g1 => by
    cases hq : truP x L1 with
    | none => rw [hq] at g1; exact g1.elim
    | some k =>
      rw [hq] at g1
      refine ⟨k, truP_ok w1 r1 hq, ?_⟩
      cases k with
      | false => exact g1.ok w1 r1
      | true => exact ⟨ι1, L1, τ, w1, s1, g1⟩
theorem fe_not (ha : FE Z X W a ma) : FE Z X W (.UnaryOp .Not a pos) (eNot ma) :=
  PE.imp (pe_notT ha) fun σ H Q h => tM.bind h fun τ x L1 ι1 u H1 w1 s1 r1 g1 => by
    cases hq : truP x L1 with
    | none => rw [hq] at g1; exact g1.elim
    | some k => rw [hq] at g1; exact ⟨k, truP_ok w1 r1 hq, g1.ok w1 vrb⟩
def eCh (f g : PV → PV → LH → R PV) (ma mb mc : ME) : ME := fun τ L => (ma τ L).bind fun x L1 => (mb τ L1).bind fun y L2 => (f x y L2).bind fun z L3 => match z with
  | .bl k => if k = true then (mc τ L3).bind fun w L4 => g y w L4 else .ok (.bl false) L3
  | _ => .no
def tV1 (m : ME) : MT := fun τ L => (m τ L).bind fun x L1 => match x with
  | .bl b => .ok b L1
  | _ => .no
/-- the classes of which instances may come, and what isinstance answers -/
structure Kit (K : PySem.W.Frag) (ga : Ga) (cs : List Str) (tab : List (Tp × Tp × Bool)) : Prop where
  ins : ∀ C ∈ cs, Cls K (ga C) ∧ PySem.W.findIn K (.ref (ga C)) "__class__" = some (some (.builtin "object.__class__")) ∧ PySem.W.specialIn K (.builtin "object.__class__") "__get__" = some (some (.builtin "getset_descriptor.__get__")) ∧
    PySem.W.takesIn K (.builtin "object.__class__") = some true ∧ PySem.W.mroIn K (ga C) (.type "object") = some true
  tab : ∀ q ∈ tab, PySem.W.kitOne K (q.1.v ga) (q.2.1.v ga) = some q.2.2
def tpOf (cs : List Str) (x : PV) (L : LH) : Option Tp := match x with
  | .non => some (.b "NoneType")
  | .bl _ => some (.b "bool")
  | .int _ => some (.b "int")
  | .str _ => some (.b "str")
  | .tup _ => some (.b "tuple")
  | .rol _ => some (.b "list")
  | .obj n => match L[n]? with
    | some (.lst _) => some (.b "list")
    | some (.dct _) => some (.b "dict")
    | some (.fdct _) => some (.b "dict")
    | some (.ins C _) => if cs.contains C then some (.c C) else none
    | _ => none
  | _ => none
theorem tpOf_ok {cs : List Str} {tab : List (Tp × Tp × Bool)} (k : Kit K ga cs tab) {ι : List Addr} {L : LH} {H : Hp} {x : PV} {v : V} {t : Tp} (w : Wd K ga ι L H) (r : VR K ga ι H x v) (h : tpOf cs x L = some t) : TyX K H v (t.v ga) := by
  unfold tpOf at h
  split at h
  · cases h; rw [r.n]; exact .base .non
  · cases h; rw [r.b]; exact .base (.bl _)
  · cases h; rw [r.i]; exact .base (.int _)
  · cases h; rw [r.s]; exact .base (.str _)
  · cases h
    obtain ⟨a, ys, rfl, h1, _⟩ := r
    rcases h1 with (h1 | ⟨o, h1⟩) | ⟨o, its, n, h1, hc, _⟩
    · exact .base (.tup h1)
    · exact .fTuple h1
    · exact .kTuple h1 hc
  · cases h
    obtain ⟨a, ys, rfl, h1, _⟩ := r
    rcases h1 with ⟨o, h1⟩ | ⟨o, its, n, h1, hc, _⟩
    · exact .base (.frz h1)
    · exact .kList h1 hc
  · split at h
    · rename_i hl
      cases h
      obtain ⟨a, ys, rfl, _, h1, _⟩ := lst_at w r hl
      exact .base (.lst h1)
    · rename_i hl
      cases h
      obtain ⟨a, l, rfl, _, h1, _⟩ := dct_at w r hl
      exact .base (.dK h1)
    · rename_i hl
      cases h
      obtain ⟨a, h1, rfl⟩ := r
      obtain ⟨ho, q1, od, l, rfl, q2⟩ := w.at_ _ a _ h1 hl
      exact .fDict q1
    · rename_i C fs hl
      split at h
      · rename_i hc
        cases h
        obtain ⟨a, h1, rfl⟩ := r
        obtain ⟨ho, q1, dx, l, rfl, q2⟩ := w.at_ _ a _ h1 hl
        obtain ⟨c1, c2, c3, c4, c5⟩ := k.ins C (by simpa using hc)
        exact .base (.ins q1 c1 c2 c3 c4 c5)
      · cases h
    · cases h
  · cases h
def clsOf : PV → Option Tp
  | .ty n => some (.b n)
  | .glo C => some (.c C)
  | _ => none
theorem clsOf_ok {ι : List Addr} {H : Hp} {x : PV} {v : V} {t : Tp} (r : VR K ga ι H x v) (h : clsOf x = some t) : ClsV v (t.v ga) := by
  unfold clsOf at h
  split at h
  · cases h
    rename_i n
    have e : v = .ty n := by simpa [VR] using r
    subst e; exact .ty n
  · cases h
    rename_i C
    have e : v = .ref (ga C) := by simpa [VR] using r
    subst e; exact .own _
  · cases h
def kitL (tab : List (Tp × Tp × Bool)) (t c : Tp) : Option Bool := (tab.find? fun q => decide (q.1 = t) && decide (q.2.1 = c)).map (·.2.2)
theorem kitL_ok {cs : List Str} {tab : List (Tp × Tp × Bool)} (k : Kit K ga cs tab) {t c : Tp} {b : Bool} (h : kitL tab t c = some b) : PySem.W.kitOne K (t.v ga) (c.v ga) = some b := by
  unfold kitL at h
  obtain ⟨q, h1, h2⟩ := Option.map_eq_some_iff.mp h
  have h3 := k.tab q (List.mem_of_find?_eq_some h1)
  have h4 := List.find?_some h1
  simp only [Bool.and_eq_true, decide_eq_true_eq] at h4
  rw [h4.1, h4.2, h2] at h3
  exact h3
def isiF (cs : List Str) (tab : List (Tp × Tp × Bool)) (xs : List PV) (L : LH) : R PV := match xs with
  | [x, c] => (match tpOf cs x L, clsOf c with
    | some t, some u => (match kitL tab t u with
      | some b => .ok (.bl b) L
      | none => .no)
    | _, _ => .no)
  | _ => .no
theorem isiL {cs : List Str} {tab : List (Tp × Tp × Bool)} (k : Kit K ga cs tab) : CaL K ga (isiF cs tab) (rIsi K) := by
  intro W ι L H σ xs us Q w r g
  unfold isiF at g
  split at g
  · obtain ⟨u, v, rfl, r1, r2⟩ := r.two
    split at g
    · rename_i h1 h2
      split at g
      · rename_i h3
        exact ⟨u, v, _, _, _, rfl, clsOf_ok r2 h2, tpOf_ok k w r1 h1, kitL_ok k h3, g.ok w vrb⟩
      · exact g.elim
    · exact g.elim
  · exact g.elim
theorem walks_list {a : Addr} {n : Nat} {ι : List Addr} {H : Hp} (hn : ι[n]? = some a) : Walks K ga ι H (.at_ n) (Itl K a) := by
  intro ι2 L2 H2 e w i
  have hn2 : ι2[n]? = some a := by
    obtain ⟨⟨δ, rfl, _⟩, _⟩ := e
    rw [List.getElem?_append_left (List.getElem?_eq_some_iff.mp hn).1]
    exact hn
  have rd : VR K ga ι2 H2 (.obj n) (.ref a) := ⟨a, hn2, rfl⟩
  unfold Src.get
  dsimp only
  cases hl : L2[n]? with
  | none => exact ⟨fun h => (nomatch h), fun x h => (nomatch h)⟩
  | some o =>
    cases o with
    | lst xs =>
      obtain ⟨a', ys, e1, _, h1, h2⟩ := lst_at w rd hl
      cases e1
      refine ⟨fun h => ⟨ys, SqL.of h1, ?_⟩, fun x h => ?_⟩
      · have h' : xs[i]? = none := by simpa using h
        rw [← h2.len]; exact List.getElem?_eq_none_iff.mp h'
      · have h' : xs[i]? = some x := by simpa using h
        obtain ⟨v, q1, q2⟩ := h2.get h'
        refine ⟨⟨ys, v, SqL.of h1, q1⟩, fun u H3 hy => ?_⟩
        obtain ⟨rfl, hy⟩ := hy
        have z := hy ys (SqL.of h1)
        rw [q1] at z; cases z
        exact ⟨Ext.refl, w, q2⟩
    | _ => exact ⟨fun h => (nomatch h), fun x h => (nomatch h)⟩
theorem walks_rol {a : Addr} {xs : List PV} {ys : List V} {ι : List Addr} {H : Hp} (h1 : RoL K H a ys) (h2 : VRs K ga ι H xs ys) : Walks K ga ι H (.vals xs) (Itl K a) := by
  intro ι2 L2 H2 e w i
  have h1' := (e.ro _ _ h1).sq
  have h2' := h2.up e
  refine ⟨fun h => ⟨ys, h1', ?_⟩, fun x h => ?_⟩
  · have h' : xs[i]? = none := by simpa [Src.get] using h
    rw [← h2.len]; exact List.getElem?_eq_none_iff.mp h'
  · have h' : xs[i]? = some x := by simpa [Src.get] using h
    obtain ⟨v, q1, q2⟩ := h2'.get h'
    refine ⟨⟨ys, v, h1', q1⟩, fun u H3 hy => ?_⟩
    obtain ⟨rfl, hy⟩ := hy
    have z := hy ys h1'
    rw [q1] at z; cases z
    exact ⟨Ext.refl, w, q2⟩
theorem walks_tup {a : Addr} {xs : List PV} {ys : List V} {ι : List Addr} {H : Hp} (h1 : SqT K H a ys) (h2 : VRs K ga ι H xs ys) : Walks K ga ι H (.vals xs) (Itt K a) := by
  intro ι2 L2 H2 e w i
  have h1' := e.tp _ _ h1
  have h2' := h2.up e
  refine ⟨fun h => ⟨ys, h1', ?_⟩, fun x h => ?_⟩
  · have h' : xs[i]? = none := by simpa [Src.get] using h
    rw [← h2.len]; exact List.getElem?_eq_none_iff.mp h'
  · have h' : xs[i]? = some x := by simpa [Src.get] using h
    obtain ⟨v, q1, q2⟩ := h2'.get h'
    refine ⟨⟨ys, v, h1', q1⟩, fun u H3 hy => ?_⟩
    obtain ⟨rfl, hy⟩ := hy
    have z := hy ys h1'
    rw [q1] at z; cases z
    exact ⟨Ext.refl, w, q2⟩
theorem walks_rng {lo : Int} {n : Nat} {ι : List Addr} {H : Hp} : Walks K ga ι H (.vals ((List.range n).map fun k => .int (lo + (k : Nat)))) (Itr lo n) := by
  intro ι2 L2 H2 e w i
  refine ⟨fun h => ?_, fun x h => ?_⟩
  · have h' : ((List.range n).map fun k => PV.int (lo + (k : Nat)))[i]? = none := by simpa [Src.get] using h
    have z := List.getElem?_eq_none_iff.mp h'
    rw [List.length_map, List.length_range] at z
    exact z
  · have h' : ((List.range n).map fun k => PV.int (lo + (k : Nat)))[i]? = some x := by simpa [Src.get] using h
    obtain ⟨hl, hx⟩ := List.getElem?_eq_some_iff.mp h'
    have hi : i < n := by simpa using hl
    refine ⟨hi, fun u H3 hy => ?_⟩
    obtain ⟨rfl, rfl⟩ := hy
    refine ⟨Ext.refl, w, ?_⟩
    have e2 : x = .int (lo + (i : Nat)) := by rw [← hx]; simp
    rw [e2]; exact vri
theorem PI.imp {tg : Expr} {t t' : TI} (h : PI X tg e t) (q : ∀ σ H R, t' σ H R → t σ H R) : PI X tg e t' := ⟨fun pins s σ H R I z => h.run pins s σ H R I (q _ _ _ z)⟩
theorem PI.or {tg : Expr} {t t' : TI} (h : PI X tg e t) (h' : PI X tg e t') : PI X tg e (fun σ H R => t σ H R ∨ t' σ H R) := ⟨fun pins s σ H R I z => z.elim (h.run pins s σ H R I) (h'.run pins s σ H R I)⟩
def iR1 (m : MA) : MI := fun τ L => (m τ L).bind fun xs L1 => match xs with
  | [.int j] => if -(2 ^ 62) ≤ j ∧ j < 2 ^ 62 then .ok (.vals ((List.range j.toNat).map fun k => .int (0 + (k : Nat)))) L1 else .no
  | _ => .no
theorem fi_range1 {tg : Expr} (hg : Gl X "range") (hm : X.mg "range" = none) (ha : FA Z X W [a] mr) (hs : starEach [a] X.env = [(false, eval a X.env)] := by rfl) : FI Z X W tg (.Call (.Name "range" p) [a] [] pos) (iR1 mr) :=
  PI.imp (pi_range1 hg hm ha hs) fun σ H Rr h => tM.bind h fun τ xs L1 ι1 us H1 w1 s1 r1 g1 => by
    split at g1
    · split at g1
      · rename_i hz
        obtain ⟨u, rfl, ru⟩ := r1.one
        exact ⟨_, by rw [ru.i], hz.1, hz.2, g1.ok w1 walks_rng⟩
      · exact g1.elim
    · exact g1.elim
end
end FL
namespace L2
open PySem PySem.Spec PyProof.Rows
/-- the one pair -/
def Ito (d : Addr) (o : Obj) (k v : V) : It :=
  ⟨fun i H => H d = some (.frz o (.own d)) ∧ i < 1, fun i H x H' => ∃ T, x = .ref T ∧ H T = none ∧ H' = upd H T (.tup [k, v]), fun i H => H d = some (.frz o (.own d)) ∧ 1 ≤ i⟩
theorem turn_itemsO {P : Program} {w : World} {K : PySem.W.Frag} {d : Addr} {o : Obj} {hh : Int} {ku vu : Value} {ep : Nat} {k v : V} {elts : List Expr} {kk : Nat} {tpos : Pos} (it : Addr) (hx : o.ExactDict) (hod : o.data = .dict #[⟨hh, ku, vu⟩] ep) (rk : RelV k ku) (rv : RelV v vu) :
    Turn P w K (.Tuple elts kk tpos) (Ito d o k v) [it] it (fun i h => ∃ ok ov, IsItemIter h it d i 1 ep ok ov) where
  mem := by simp
  obj := fun i h st b hb => by
    have e : b = it := by simpa using hb
    subst e
    obtain ⟨ok, ov, e⟩ := st
    exact ⟨_, e, fun v z => nomatch z⟩
  keep := fun i h h' st k => let ⟨ok, ov, e⟩ := st; ⟨ok, ov, k it (by simp) _ e⟩
  item := by
    intro X hP hw hK hc i pins s σ H E I hf st hg
    subst hP hw hK
    obtain ⟨hd, hi⟩ := hg
    obtain rfl : i = 0 := by omega
    obtain ⟨ho, _⟩ := (show ObjOk X.prog X.w H s.heap d (.frz o (.own d)) from I.hok d _ hd)
    obtain ⟨ok, ov, he⟩ := st
    have hlt : it < s.heap.objs.size := Heap.lt_size he
    have raw : DT.Raw s.heap d #[⟨hh, ku, vu⟩] ep := ⟨o, ho, hx, hod⟩
    refine DT.nextI (es := #[⟨hh, ku, vu⟩]) he raw (by simp) fun h' hout hT hz hk => ?_
    refine ⟨_, rfl, wpAny_letOwnedTupleGo_items (s := { s with heap := h' }) hout fun h'' he' sb => ?_⟩
    have hT2 : h''.get? s.heap.objs.size = some { cls := .type "tuple", data := .seq #[ku, vu] } := (sb.2 _ (Nat.ne_of_gt hlt)).trans hT
    have new : ObjOk X.prog X.w (upd H s.heap.objs.size (.tup [k, v])) h'' s.heap.objs.size (.tup [k, v]) :=
      ⟨by show 2 ≤ sizeLine; decide, [ku, vu], .cons rk (.cons rv .nil), ⟨_, hT2, rfl, _, rfl⟩⟩
    have I1 : Inv X pins σ (upd H s.heap.objs.size (.tup [k, v])) { s with heap := h'' } :=
      I.turnedNew (t' := s.toks) (ch := [it]) (fun b ob hb e => (sb.2 b (by simpa using hb)).trans (hk b ob (by simpa using hb) e)) hf (Nat.le_refl _) new
    refine ⟨.ref s.heap.objs.size, _, I1, rfl, ⟨_, rfl, I.hok.fresh (Nat.le_refl _), rfl⟩, ⟨ku, vu, he'⟩, fun b hb => ?_⟩
    have e : b = it := by simpa using hb
    rw [e, upd_ne (Nat.ne_of_lt hlt)]
    exact (hf it (by simp)).1
  done := by
    intro X hP hw hK hc i pins s σ H E I hf st hg
    subst hP hw hK
    obtain ⟨hd, hi⟩ := hg
    obtain ⟨f0, f1, f2, f3, f4, f5⟩ := hf it (by simp)
    obtain ⟨ho, _⟩ := (show ObjOk X.prog X.w H s.heap d (.frz o (.own d)) from I.hok d _ hd)
    obtain ⟨ok, ov, he⟩ := st
    have raw : DT.Raw s.heap d #[⟨hh, ku, vu⟩] ep := ⟨o, ho, hx, hod⟩
    exact DT.endI (es := #[⟨hh, ku, vu⟩]) (I.ok.hd hc) he raw hi fun h' eb => ⟨rfl, I.turned (t' := s.toks) (fun b ob hb e => eb b ob hb e) f0 f1 f3 f4 f5⟩
  self := fun A i s Q E st h => let ⟨_, _, e⟩ := st; PySem.W.kcp_self e h
def iItemsA (td : TE) : TI := fun σ H R => td σ H fun x H1 => ∃ d o, x = .ref d ∧ ((∃ kvs, H1 d = some (.frz o (.dK kvs)) ∧ R (Iti d o kvs) H1) ∨ (∃ k v, H1 d = some (.frz o (.own d)) ∧ FL.OddOb d o k v ∧ R (Ito d o k v) H1))
theorem pi_itemsA {X : Cx} {e : Expr} {td : TE} {apos cpos : Pos} {elts : List Expr} {kk : Nat} {tpos : Pos} (he : PE X e td) (hbase : attributeBase e "items" X.env (eval e X.env) = eval e X.env := by rfl) (hline : (apos.endLine == cpos.line) = true := by rfl) :
    PI X (.Tuple elts kk tpos) (.Call (.Attribute e "items" apos) [] [] cpos) (iItemsA td) := by
  refine ⟨fun pins s σ H R I h => ?_⟩
  refine wpAny_Call_method (T := "dict") (id := "dict.items") hbase rfl hline F.plainAttrs_dict F.slot_dict_items F.type_dict_items (thn (he.run pins s σ H _ I h) fun u s1 ⟨x, H1, I1, rx, d, o, ex, q⟩ => ?_)
  subst ex
  obtain rfl : u = Value.ref d := rx
  have I2 : Inv X pins σ H1 { s1 with heap := s1.heap.push { cls := .type "dict_items", data := .fields #[.ref d] } } := I1.kept (t' := s1.toks) fun b ob q => Heap.get?_push_of_some _ q
  rcases q with ⟨kvs, hd, q⟩ | ⟨k, v, hd, hO, q⟩
  · obtain ⟨hs, hgd, hx, es, ep, vs, hdt, hsz, kv, hm⟩ := I1.frzK hd
    have hl : kvs.length = vs.length := Paired.length kv
    refine ⟨hm.dictOf.typeIs, hm.dictOf.mapOf.noDict, ?_⟩
    have fin : wpAny (model X.prog X.w) X.A (pyIter (.ref s1.heap.objs.size)) (PIE X pins σ (.Tuple elts kk tpos) R) X.xe { s1 with heap := s1.heap.push { cls := .type "dict_items", data := .fields #[.ref d] } } := by
      refine wpAny_pyIter_items (d := d) (knd := mixKind X.prog X.w) ⟨_, Heap.get?_push_size _ rfl, rfl, rfl⟩ (hm.push _) (pi_one (tk := s1.toks) I2 _ (turn_items _ hdt) ⟨.none, .none, ?_⟩ q)
      rw [hl]
      exact Heap.get?_push_size _ rfl
    show wpAny _ _ (callWith cpos (.builtin "dict.items") [.ref d] [] []) _ X.xe s1
    exact method_meetsIn F.slot_dict_items F.entry_dict_items rfl (PySem.evalArgs_none ⟨rfl, hm.dictOf.typeIs, F.args_dict_items_1 _, _, meets_dict_items (mixKind X.prog X.w) d hs, ⟨vs, hm.dictOf⟩, fin⟩)
  · obtain ⟨ho, _⟩ := (show ObjOk X.prog X.w H1 s1.heap d (.frz o (.own d)) from I1.hok d _ hd)
    obtain ⟨hs, hx, hh, ku, vu, ep, hdt, rk, rv⟩ := hO
    have raw : DT.Raw s1.heap d #[⟨hh, ku, vu⟩] ep := ⟨o, ho, hx, hdt⟩
    refine ⟨raw.typeIs, ?_, ?_⟩
    · intro b e; cases e; exact ⟨o, ho, hx.2.1⟩
    have fin : wpAny (model X.prog X.w) X.A (pyIter (.ref s1.heap.objs.size)) (PIE X pins σ (.Tuple elts kk tpos) R) X.xe { s1 with heap := s1.heap.push { cls := .type "dict_items", data := .fields #[.ref d] } } := by
      refine DT.iterI (d := d) (es := #[⟨hh, ku, vu⟩]) (ep := ep) ⟨_, Heap.get?_push_size _ rfl, rfl, rfl⟩ (raw.push _) (pi_one (tk := s1.toks) I2 _ (turn_itemsO _ hx hdt rk rv) ⟨.none, .none, ?_⟩ q)
      exact Heap.get?_push_size _ rfl
    show wpAny _ _ (callWith cpos (.builtin "dict.items") [.ref d] [] []) _ X.xe s1
    exact method_meetsIn F.slot_dict_items F.entry_dict_items rfl (PySem.evalArgs_none ⟨rfl, raw.typeIs, F.args_dict_items_1 _, _, DT.meetsItems (es := #[⟨hh, ku, vu⟩]) (ep := ep) hs, raw, fin⟩)
end L2
namespace L2
open PySem PySem.Spec PyProof.Rows
section
variable {X : Cx} {e : Expr} {te : TE} {p apos cpos pos : Pos}
/-- list(e.values()) -/
def tListVals (te : TE) : TE := fun σ H Q => te σ H fun x H1 => ∃ d kvs, x = .ref d ∧ H1 d = some (.dK kvs) ∧ ∀ p, H1 p = none → Q (.ref p) (upd H1 p (.lst (kvs.map (·.2))))
theorem pe_listVals (hc : X.calm = true) (he : PE X e te) (hg : Gl X "list") (hm : X.mg "list" = none) (hbase : attributeBase e "values" X.env (eval e X.env) = eval e X.env := by rfl) (hline : (apos.endLine == cpos.line) = true := by rfl)
    (hs : starEach [.Call (.Attribute e "values" apos) [] [] cpos] X.env = (false, eval (.Call (.Attribute e "values" apos) [] [] cpos) X.env) :: starEach [] X.env := by rfl) :
    PE X (.Call (.Name "list" p) [.Call (.Attribute e "values" apos) [] [] cpos] [] pos) (tListVals te) := by
  refine ⟨fun pins s σ H Q I hq => ?_⟩
  refine wpAny_Call_Name_kw (ld_blt I hg hm PyProof.Rows.boot_list ?_)
  refine PyProof.Rows.callWith_type1 ?_ hs rfl
  rw [hs]
  show wpAny _ _ (spliced ((false, eval (.Call (.Attribute e "values" apos) [] [] cpos) X.env) :: backTo pos (starEach [] X.env))) _ _ s
  refine Calls.spliced_cons ?_
  refine wpAny_Call_method0_late hbase hline (thn (he.run pins s σ H _ I hq) fun u s1 ⟨x, H1, I1, rx, a, kvs, ex, ha, q⟩ => ?_)
  subst ex
  obtain rfl : u = Value.ref a := rx
  obtain ⟨hz, hsys, vs, rel, dof⟩ := dk_of I1.hok ha
  obtain ⟨ep, dat⟩ := dof.dictAt
  have dat' := dat
  obtain ⟨ob, es, ho, ex, hdat, hko, hpr, hnd⟩ := dat'
  refine ⟨"dict", "dict.values", F.plainAttrs_dict, F.slot_dict_values, F.type_dict_values, ⟨ob, ho, ex.1⟩, fun b e => ?_, Calls.callWith_builtin rfl (PySem.evalArgs_none ?_)⟩
  · cases e
    exact ⟨ob, ho, ex.2.1⟩
  refine call_meetsIn F.slot_dict_values ⟨ob, ho, ex.1⟩ F.entry_dict_values (F.args_dict_values_1 _) (meets_dict_values (mixKind X.prog X.w) a hsys) ⟨⟨vs, dof⟩, ?_⟩
  have k1 : ∀ b u, s1.heap.get? b = some u → (s1.heap.push { cls := .type "dict_values", data := .fields #[.ref a] }).get? b = some u := fun b u e => Heap.get?_push_of_some _ e
  have dat1 : (s1.heap.push { cls := .type "dict_values", data := .fields #[.ref a] }).DictAt (mixKind X.prog X.w) a vs ep := dat.keep k1
  have I2 : Inv X pins σ H1 { s1 with heap := s1.heap.push { cls := .type "dict_values", data := .fields #[.ref a] } } := I1.kept (t' := s1.toks) k1
  refine Calls.spliced_nil ?_
  refine PySem.W.kdl_call (PySem.W.kdl_values (knd := mixKind X.prog X.w) (kvs := vs) (ep := ep) (d := a) (r := s1.heap.objs.size)) (I1.ok.hd hc) ⟨⟨_, Heap.get?_push_size _ rfl, rfl, rfl⟩, dat1⟩ (by rw [← KV.length rel]; exact hz) fun h' tk acc c' hk hD hacc => ?_
  have hv : Vals (kvs.map (·.2)) acc.toList := by
    refine vals_of_idx _ _ (by rw [List.length_map, Array.length_toList, hacc.1]; exact (KV.length rel).symm) fun j u e => ?_
    obtain ⟨k, hk'⟩ := hacc.2 j u (by rw [← Array.getElem?_toList]; exact e)
    obtain ⟨x, h1, h2⟩ := KV.at' rel hk'
    exact ⟨x, by rw [List.getElem?_map, h1]; rfl, h2⟩
  refine ⟨.ref _, upd H1 _ (.lst (kvs.map (·.2))), I2.laid (t' := tk) hk (Nat.le_refl _)
    (show ObjOk X.prog X.w _ _ _ (.lst (kvs.map (·.2))) from ⟨by rw [List.length_map]; exact hz, acc.toList, c', hv, by rw [Array.toArray_toList]; exact hD⟩), rfl, q _ (I2.hok.fresh (Nat.le_refl _))⟩
end
end L2
namespace FL
open PySem PySem.Spec PyProof.Rows L2
def kP : Key → PV
  | .inl i => .int i
  | .inr z => .str z
section
variable {X : Cx} {Z : Zs} {W : WX} {e o a b c : Expr} {ma mb mc me mo md : ME} {mv : MV} {mi : MI} {pos p apos cpos : Pos} {es : List Expr} {mr : MA} {tc : MT} {K : PySem.W.Frag} {ga : Ga} {x : Str} {g : MG} {own : List Nat}
theorem vrk {ι : List Addr} {H : Hp} (k : Key) : VR K ga ι H (kP k) (kV k) := by
  cases k with
  | inl i => exact vri
  | inr z => exact vrs
theorem Ext.lock0 {ι ι' : List Addr} {H H' : Hp} {n : Nat} {d : Addr} {od : Obj} {l : List (Key × V)} (e : Ext K ι (upd H d (.frz od (.dK l))) ι' H') (hn : ι[n]? = some d) (hd : H d = some (.dK l)) : Ext K ι H ι' H' := by
  have hm := List.mem_of_getElem? hn
  have k : ∀ a u, a ≠ d → H a = some u → upd H d (.frz od (.dK l)) a = some u := fun a u h q => by rw [upd_ne h]; exact q
  have nd : ∀ a u, H a = some u → (∀ x, u ≠ .dK x) → a ≠ d := fun a u h q z => by rw [z, hd] at h; cases h; exact q _ rfl
  refine ⟨?_, fun a u ha h nt no => e.st a u ha (k a u (fun z => ha (z ▸ hm)) h) nt no, fun a ys h => e.tp a ys ?_, fun a ys h => e.ro a ys ?_, fun a o' u h => e.fz a o' u (k a _ (nd a _ h fun _ z => nomatch z) h), fun a y ha h => e.ow a y ha (k a _ (fun z => ha (z ▸ hm)) h), fun a l' h => e.xd a l' (k a _ (nd a _ h fun _ z => nomatch z) h)⟩
  · obtain ⟨δ, h1, h2⟩ := e.gr
    refine ⟨δ, h1, fun a ha => ?_⟩
    rcases h2 a ha with z | z
    · exact .inl z
    · by_cases had : a = d
      · exact .inl (had ▸ hm)
      · exact .inr fun o q => z o (by rw [upd_ne had]; exact q)
  · rcases h with (h | ⟨u', h⟩) | h
    · exact .inl (.inl (k _ _ (nd _ _ h fun _ z => nomatch z) h))
    · exact .inl (.inr ⟨u', k _ _ (nd _ _ h fun _ z => nomatch z) h⟩)
    · exact .inr h
  · rcases h with ⟨u', h⟩ | h
    · exact .inl ⟨u', k _ _ (nd _ _ h fun _ z => nomatch z) h⟩
    · exact .inr h
theorem Ext.lock {ι ι' : List Addr} {H H' : Hp} {n : Nat} {d : Addr} {od : Obj} {l : List (Key × V)} (e : Ext K ι (upd H d (.frz od (.dK l))) ι' H') (hn : ι[n]? = some d) (hd : H d = some (.dK l)) : Ext K ι H ι' (upd H' d (.dK l)) := by
  have e0 := e.lock0 hn hd
  have hm := List.mem_of_getElem? hn
  have hd' : H' d = some (.frz od (.dK l)) := e.fz _ _ _ upd_same
  have nd : ∀ a u, H' a = some u → u ≠ .frz od (.dK l) → a ≠ d := fun a u h q z => by rw [z, hd'] at h; cases h; exact q rfl
  have nd0 : ∀ a u, H a = some u → (∀ x, u ≠ .dK x) → a ≠ d := fun a u h q z => by rw [z, hd] at h; cases h; exact q _ rfl
  refine ⟨e0.gr, fun a u ha h nt no => by rw [upd_ne (fun z : a = d => ha (by rw [z]; exact hm))]; exact e0.st a u ha h nt no, fun a ys h => ?_, fun a ys h => ?_, fun a o' u h => by rw [upd_ne (nd0 a _ h fun _ z => nomatch z)]; exact e0.fz a o' u h, fun a y ha h => by rw [upd_ne (fun z : a = d => ha (by rw [z]; exact hm))]; exact e0.ow a y ha h, fun a l' h => by rw [upd_ne (nd0 a _ h fun _ z => nomatch z)]; exact e0.xd a l' h⟩
  · have h := e0.tp a ys h
    rcases h with (h | ⟨u', h⟩) | h
    · exact .inl (.inl (by rw [upd_ne (nd _ _ h fun z => nomatch z)]; exact h))
    · exact .inl (.inr ⟨u', by rw [upd_ne (nd _ _ h fun z => by cases z)]; exact h⟩)
    · exact .inr h
  · have h := e0.ro a ys h
    rcases h with ⟨u', h⟩ | h
    · exact .inl ⟨u', by rw [upd_ne (nd _ _ h fun z => by cases z)]; exact h⟩
    · exact .inr h
theorem Up.lockd {ι : List Addr} {H : Hp} {d : Addr} {od : Obj} {l : List (Key × V)} (hd : H d = some (.dK l)) : Up K ι H ι (upd H d (.frz od (.dK l))) := Up.tmp hd True.intro
theorem Up.unl {ι : List Addr} {H : Hp} {d : Addr} {od : Obj} {l : List (Key × V)} (hd : H d = some (.frz od (.dK l))) : Up K ι H ι (upd H d (.dK l)) := Up.tmp hd True.intro
theorem SR.lock {ι : List Addr} {L : LH} {H : Hp} {τ : Sl} {σ : L2.St} {d : Addr} {od : Obj} {l : List (Key × V)} (s : SR K Z ι H τ σ) (hd : H d = some (.dK l)) : SR K Z ι (upd H d (.frz od (.dK l))) τ σ := s.tmp hd True.intro
/-- what md tells is locked meanwhile, unless it is locked anyway -/
def lockR {α : Type} (md : ME) (m : Sl → LH → R α) : Sl → LH → R α := fun τ L => match md τ L with
  | .ok (.obj n) _ => (match L[n]? with
    | some (.dct kvs) => (match m τ (L.set n (.fdct kvs)) with
      | .ok x L' => .ok x (L'.set n (.dct kvs))
      | r => r)
    | some (.fdct _) => m τ L
    | some (.lst _) => m τ L
    | some (.odd _ _) => m τ L
    | _ => .no)
  | .ok (.tup _) _ => m τ L
  | .ok (.rol _) _ => m τ L
  | _ => .no
theorem fv_lock (md : ME) (h : FV Z X W e mv) : FV Z X W e (lockR md mv) := PE.imp (PE.or (pe_lock h) h) fun σ H Q ⟨ι, L, τ, w, s, g⟩ => by
  unfold lockR at g
  split at g
  · rename_i n _ _
    split at g
    · rename_i kvs hl
      obtain ⟨d, hn⟩ : ∃ d, ι[n]? = some d := by
        have : n < ι.length := by rw [w.len]; exact (List.getElem?_eq_some_iff.mp hl).1
        exact ⟨_, List.getElem?_eq_getElem this⟩
      obtain ⟨ho, q1, l, rfl, q2⟩ := w.at_ n d _ hn hl
      refine .inl ⟨d, .dK l, q1, True.intro, fun od => ?_⟩
      have up' : Up X.K ι H ι (upd H d (.frz od (.dK l))) := Up.lockd q1
      have wL : Wd X.K Z.f ι (L.set n (.fdct kvs)) (upd H d (.frz od (.dK l))) := w.put hn up' (fun x hx => tabS_upd q1 True.intro (w.tb x hx)) ⟨od, l, rfl, q2.upU up'⟩
      have sL := s.lock (L := L) (od := od) q1
      refine ⟨ι, _, τ, wL, sL, ?_⟩
      cases hm : mv τ (L.set n (.fdct kvs)) with
      | ok xs L' =>
        rw [hm] at g
        intro ι' H' a ys e w' n1 n2 ha r z
        have hd' : H' d = some (.frz od (.dK l)) := e.fz _ _ _ upd_same
        have had : a ≠ d := fun q => by rw [q, hd'] at ha; cases ha
        have hn' : ι'[n]? = some d := by
          obtain ⟨⟨δ, rfl, _⟩, _⟩ := e
          rw [List.getElem?_append_left (List.getElem?_eq_some_iff.mp hn).1]; exact hn
        have eF := Ext.lock e hn q1
        have up2 : Up X.K ι' H' ι' (upd H' d (.dK l)) := Up.unl hd'
        have wF : Wd X.K Z.f ι' (L'.set n (.dct kvs)) (upd H' d (.dK l)) := w'.put hn' up2 (fun x hx => tabS_upd hd' True.intro (w'.tb x hx)) ⟨l, rfl, q2.up eF⟩
        refine ⟨hd', g ι' _ a ys eF wF ?_ n2 (by rw [upd_ne had]; exact ha) (r.upU up2) z⟩
        exact fun o q => n1 o (by rw [upd_ne had]; exact q)
      | ex c fs L' =>
        rw [hm] at g
        intro ι' H' d' l' e w' q3 q4
        exact g ι' H' d' l' (Ext.lock0 e hn q1) w' q3 q4
      | no => rw [hm] at g; exact g.elim
    · exact .inr ⟨ι, L, τ, w, s, g⟩
    · exact .inr ⟨ι, L, τ, w, s, g⟩
    · exact .inr ⟨ι, L, τ, w, s, g⟩
    · exact g.elim
  · exact .inr ⟨ι, L, τ, w, s, g⟩
  · exact .inr ⟨ι, L, τ, w, s, g⟩
  · exact g.elim
def iIs (md : ME) : MI := fun τ L => (md τ L).bind fun x L1 => match x with
  | .obj n => (match L1[n]? with
    | some (.fdct kvs) => .ok (.vals (kvs.map fun kv => .tup [kP kv.1, kv.2])) L1
    | some (.odd k v) => .ok (.vals [.tup [k, v]]) L1
    | _ => .no)
  | _ => .no
theorem DRs.at_ {ι : List Addr} {H : Hp} : ∀ {kvs : List (Key × PV)} {l : List (Key × V)} {i : Nat} {q : Key × PV}, DRs K ga ι H kvs l → kvs[i]? = some q → ∃ v, l[i]? = some (q.1, v) ∧ VR K ga ι H q.2 v
  | [], _, _, _, _, e => by simp at e
  | y :: xs, _, 0, q, h, e => by obtain ⟨v, r, rfl, h1, _⟩ := h; simp at e; subst e; exact ⟨v, rfl, h1⟩
  | y :: xs, _, i + 1, q, h, e => by
    obtain ⟨v, r, rfl, _, h2⟩ := h
    obtain ⟨u, q1, q2⟩ := DRs.at_ (i := i) (q := q) h2 (by simpa using e)
    exact ⟨u, by simpa using q1, q2⟩
theorem walks_items {d : Addr} {od : Obj} {kvs : List (Key × PV)} {l : List (Key × V)} {ι : List Addr} {H : Hp} (h1 : H d = some (.frz od (.dK l))) (h2 : DRs K ga ι H kvs l) : Walks K ga ι H (.vals (kvs.map fun kv => .tup [kP kv.1, kv.2])) (Iti d od l) := by
  intro ι2 L2 H2 e w i
  have h1' := e.fz _ _ _ h1
  refine ⟨fun h => ⟨h1', ?_⟩, fun x h => ?_⟩
  · have h' : (kvs.map fun kv => PV.tup [kP kv.1, kv.2])[i]? = none := by simpa [Src.get] using h
    have := List.getElem?_eq_none_iff.mp h'
    rw [List.length_map, h2.len] at this; exact this
  · have h' : (kvs.map fun kv => PV.tup [kP kv.1, kv.2])[i]? = some x := by simpa [Src.get] using h
    rw [List.getElem?_map] at h'
    obtain ⟨q, q1, q2⟩ := Option.map_eq_some_iff.mp h'
    obtain ⟨v, q3, q4⟩ := h2.at_ q1
    refine ⟨⟨h1', (List.getElem?_eq_some_iff.mp q3).1⟩, fun u H3 hy => ?_⟩
    obtain ⟨T, k, v', q5, rfl, hT, rfl⟩ := hy
    rw [q3] at q5; cases q5
    rw [← q2]
    have eN := Ext.new (K := K) (ι := ι2) (o := .tup [kV q.1, v]) hT
    exact ⟨eN, w.new hT, T, _, rfl, SqT.new, kV q.1, [v], rfl, vrk _, v, [], rfl, (q4.up e).up eN, rfl⟩
theorem walks_itemsO {d : Addr} {od : Obj} {k v : PV} {kv vv : V} {ι : List Addr} {H : Hp} (h1 : H d = some (.frz od (.own d))) (h2 : VRs K ga ι H [k, v] [kv, vv]) : Walks K ga ι H (.vals [.tup [k, v]]) (Ito d od kv vv) := by
  intro ι2 L2 H2 e w i
  have h1' := e.fz _ _ _ h1
  refine ⟨fun h => ⟨h1', ?_⟩, fun x h => ?_⟩
  · have h' : ([PV.tup [k, v]])[i]? = none := by simpa [Src.get] using h
    have := List.getElem?_eq_none_iff.mp h'
    simpa using this
  · have h' : ([PV.tup [k, v]])[i]? = some x := by simpa [Src.get] using h
    have hi : i < 1 := by simpa using (List.getElem?_eq_some_iff.mp h').1
    obtain rfl : i = 0 := by omega
    refine ⟨⟨h1', hi⟩, fun u H3 hy => ?_⟩
    obtain ⟨T, rfl, hT, rfl⟩ := hy
    have e' : PV.tup [k, v] = x := by simpa using h'
    rw [← e']
    have eN := Ext.new (K := K) (ι := ι2) (o := .tup [kv, vv]) hT
    exact ⟨eN, w.new hT, T, _, rfl, SqT.new, (h2.up e).up eN⟩
theorem fdct_at {ι : List Addr} {L : LH} {H : Hp} {n : Nat} {kvs : List (Key × PV)} {v : V} (w : Wd K ga ι L H) (r : VR K ga ι H (.obj n) v) (hl : L[n]? = some (.fdct kvs)) : ∃ a od l, v = .ref a ∧ ι[n]? = some a ∧ H a = some (.frz od (.dK l)) ∧ DRs K ga ι H kvs l := by
  obtain ⟨a, h1, rfl⟩ := r
  obtain ⟨ho, q1, od, l, rfl, q2⟩ := w.at_ n a _ h1 hl
  exact ⟨a, od, l, rfl, h1, q1, q2⟩
theorem fi_items {elts : List Expr} {kk : Nat} {tpos : Pos} (h : FE Z X W e md) (hbase : attributeBase e "items" X.env (eval e X.env) = eval e X.env := by rfl) (hline : (apos.endLine == cpos.line) = true := by rfl) : FI Z X W (.Tuple elts kk tpos) (.Call (.Attribute e "items" apos) [] [] cpos) (iIs md) := PI.imp (pi_itemsA h hbase hline) fun σ H Rr h => tM.bind h fun τ x L1 ι1 u H1 w1 s1 r1 g1 => by
  split at g1
  · split at g1
    · rename_i hl
      obtain ⟨a, od, l, rfl, hn, h1, h2⟩ := fdct_at w1 r1 hl
      exact ⟨a, od, rfl, .inl ⟨l, h1, g1.ok w1 (walks_items h1 h2)⟩⟩
    · rename_i hl
      obtain ⟨a, hn, rfl⟩ := r1
      obtain ⟨ho, q1, od, kv, vv, rfl, q2, q3⟩ := w1.at_ _ a _ hn hl
      exact ⟨a, od, rfl, .inr ⟨kv, vv, q1, q2, g1.ok w1 (walks_itemsO q1 q3)⟩⟩
    · exact g1.elim
  · exact g1.elim
def eVs (md : ME) : ME := fun τ L => (md τ L).bind fun x L1 => match x with
  | .obj n => (match L1[n]? with
    | some (.dct kvs) => .ok (.obj L1.length) (L1 ++ [.lst (kvs.map fun kv => kv.2)])
    | _ => .no)
  | _ => .no
def eIs (md : ME) : ME := fun τ L => (md τ L).bind fun x L1 => match x with
  | .obj n => (match L1[n]? with
    | some (.dct kvs) => .ok (.obj L1.length) (L1 ++ [.lst (kvs.map fun kv => .tup [kP kv.1, kv.2])])
    | _ => .no)
  | _ => .no
theorem DRs.vals {ι : List Addr} {H : Hp} : ∀ {kvs : List (Key × PV)} {l : List (Key × V)}, DRs K ga ι H kvs l → VRs K ga ι H (kvs.map fun kv => kv.2) (l.map (·.2))
  | [], _, h => by cases (show _ = [] from h); rfl
  | y :: xs, _, h => by obtain ⟨v, r, rfl, h1, h2⟩ := h; exact ⟨v, _, rfl, h1, DRs.vals h2⟩
theorem fe_listV (hc : X.calm = true) (hg : Gl X "list") (hm : X.mg "list" = none) (h : FE Z X W e md) (hbase : attributeBase e "values" X.env (eval e X.env) = eval e X.env := by rfl) (hline : (apos.endLine == cpos.line) = true := by rfl)
    (hs : starEach [.Call (.Attribute e "values" apos) [] [] cpos] X.env = (false, eval (.Call (.Attribute e "values" apos) [] [] cpos) X.env) :: starEach [] X.env := by rfl) : FE Z X W (.Call (.Name "list" p) [.Call (.Attribute e "values" apos) [] [] cpos] [] pos) (eVs md) :=
  PE.imp (pe_listVals hc h hg hm hbase hline hs) fun σ H Q h => tM.bind h fun τ x L1 ι1 u H1 w1 s1 r1 g1 => by
    split at g1
    · split at g1
      · rename_i hl
        obtain ⟨a, l, rfl, hn, h1, h2⟩ := dct_at w1 r1 hl
        exact ⟨a, l, rfl, h1, fun q hq => new_lst w1 h2.vals g1 hq⟩
      · exact g1.elim
    · exact g1.elim
theorem DRs.paired {ι : List Addr} {H H' : Hp} : ∀ {kvs : List (Key × PV)} {l : List (Key × V)} {ts : List Addr}, DRs K ga ι H' kvs l → Paired (fun (t : Addr) (q : Key × V) => H' t = some (.tup [kV q.1, q.2])) ts l → VRs K ga ι H' (kvs.map fun kv => .tup [kP kv.1, kv.2]) (ts.map V.ref)
  | [], _, _, h, p => by cases (show _ = [] from h); cases p; rfl
  | y :: xs, _, _, h, p => by
    obtain ⟨v, r, rfl, h1, h2⟩ := h
    cases p with
    | cons q p => exact ⟨.ref _, _, rfl, ⟨_, _, rfl, SqT.of q, kV y.1, [v], rfl, vrk _, v, [], rfl, h1, rfl⟩, DRs.paired (H := H) h2 p⟩
theorem Ext.same {ι : List Addr} {H H' : Hp} (s : ∀ b o, H b = Option.some o → H' b = Option.some o) : Ext K ι H ι H' := by
  refine ⟨⟨[], by simp, fun _ h => nomatch h⟩, fun a o _ h _ _ => s _ _ h, fun a ys h => ?_, fun a ys h => ?_, fun a o u h => s _ _ h, fun a y _ h => .inl (s _ _ h), fun a l h => s _ _ h⟩
  · rcases h with (h | ⟨u', h⟩) | h
    · exact .inl (.inl (s _ _ h))
    · exact .inl (.inr ⟨u', s _ _ h⟩)
    · exact .inr h
  · rcases h with ⟨u', h⟩ | h
    · exact .inl ⟨u', s _ _ h⟩
    · exact .inr h
theorem Wd.same {ι : List Addr} {L : LH} {H H' : Hp} (w : Wd K ga ι L H) (s : ∀ b o, H b = Option.some o → H' b = Option.some o) : Wd K ga ι L H' := w.ext (Ext.same s) (fun a ha => by
  obtain ⟨ho, q1, _⟩ := w.some ha
  rw [q1]; exact s _ _ q1) (w.tb.ext s)
theorem fe_listI (hc : X.calm = true) (hg : Gl X "list") (hm : X.mg "list" = none) (h : FE Z X W e md) (hbase : attributeBase e "items" X.env (eval e X.env) = eval e X.env := by rfl) (hline : (apos.endLine == cpos.line) = true := by rfl)
    (hs : starEach [.Call (.Attribute e "items" apos) [] [] cpos] X.env = (false, eval (.Call (.Attribute e "items" apos) [] [] cpos) X.env) :: starEach [] X.env := by rfl) : FE Z X W (.Call (.Name "list" p) [.Call (.Attribute e "items" apos) [] [] cpos] [] pos) (eIs md) :=
  PE.imp (LiI.pe_listItems hc h hg hm PyProof.Rows.boot_list hbase hline hs) fun σ H Q h => tM.bind h fun τ x L1 ι1 u H1 w1 s1 r1 g1 => by
    split at g1
    · split at g1
      · rename_i hl
        obtain ⟨a, l, rfl, hn, h1, h2⟩ := dct_at w1 r1 hl
        refine ⟨a, l, rfl, h1, fun H' q ts k1 k2 k3 k4 k5 k6 => ?_⟩
        have e := Ext.same (K := X.K) (ι := ι1) k1
        have w' := w1.same k1
        have hq : q ∉ ι1 := fun z => by obtain ⟨_, q1, _⟩ := w1.some z; rw [k2] at q1; cases q1
        have wA := w'.adopt (o := .lst _) k5 hq ⟨_, rfl, DRs.paired (H := H1) (h2.up e) k6⟩
        exact g1 (ι1 ++ [q]) H' (.ref q) (e.adopt (.of k2)) wA ⟨q, by rw [← w1.len]; simp, rfl⟩
      · exact g1.elim
    · exact g1.elim
end
end FL
namespace FL
open PySem PySem.Spec PyProof.Rows L2
theorem deep_gd {A : Around} {env : Env} (h : A.guards = some []) : (A.deeper env).guards = some [] := by
  first | exact h | simpa [Around.deeper] using h
section
variable {X : Cx} {Z : Zs} {W : WX} {e o a b i : Expr} {ma mb mo mi me mf : ME} {pos cpos apos p pp pq : Pos} {es : List Expr} {mr : MA} {ga : Ga}
theorem fe_n (i : Nat) {x : Str} {pos : Pos} (hN : X.N[i]? = some x := by rfl) (hv : Vis X.env.scope x := by first | exact Or.inl rfl | exact Or.inr (Or.inl rfl) | exact Or.inr (Or.inr rfl)) (hd : (x == ("__debug__" : Str)) = false := by decide) (hcd : (x == ("__classdict__" : Str)) = false := by decide) :
    FE Z X W (.Name x pos) (eV i) := fe_v hN hv hd hcd
theorem fe_b1 {op} (ha : FE Z X W a ma) : FE Z X W (.BoolOp op [a] pos) ma := ⟨fun pins s σ H Q I h => BoolOp_one (ha.run pins s σ H Q I h)⟩
theorem fnB_len {p n : Nat} {m : MS} (xs : List PV) (L : LH) (h : xs.length ≠ p) : fnB p n m xs L = .no := if_neg h
/-- a def as its callers know it, from its own theorem -/
theorem dfn {X : Cx} {ga : Ga} {f : Addr} {fd : FuncData} {ps : List Str} {k k0 n : Nat} {m : Fn} (F : FnM X.prog X.w X.K X.mg X.base ga k f fd ps m) (hb : Binds X.K fd ps []) (kp : PySem.W.keepIn X.K (.ref f) = true) (hl : ∀ xs L, xs.length ≠ n → m xs L = .no) (hgd : X.A.guards = some []) (hr : Room k0 X.A)
    (hk : k ≤ k0 := by first | decide | omega | (simp only [Nat.add_eq]; omega)) (hn : ps.length = n := by rfl) : Def X ga f n m := ⟨⟨k, fd, ps, fun xs _ => xs, m, F, hr.mono hk, bf_pos hb hn, fun _ _ _ => rfl, fun xs L h => hl xs L (by rw [← hn]; exact h)⟩, hgd, kp, hl⟩
theorem u1 {k : Nat} {A : Around} (h : Room k A) : A.units + 1 < cLine := by have := h.un; omega
theorem u64 {k : Nat} {A : Around} (h : Room k A) : A.units + 64 < cLine := by have := h.un; omega
theorem u65 {k : Nat} {A : Around} (h : Room k A) : A.units + 65 < cLine := by have := h.un; omega
theorem u66 {k : Nat} {A : Around} (h : Room k A) : A.units + 66 < cLine := by have := h.un; omega
theorem PMs.imp {X : Cx} {cs : List MatchCase} {t t' : TM} (h : PMs X cs t) (q : ∀ v D σ H, t' v D σ H → t v D σ H) : PMs X cs t' := ⟨fun pins s σ H D v u first I r z => h.run pins s σ H D v u first I r (q _ _ _ _ z)⟩
def iS (m : ME) : MI := fun τ L => (m τ L).bind fun x L1 => match x with
  | .str z => if z.length ≤ sizeLine then .ok (.vals (z.cps.toList.map fun c => .str ⟨#[c]⟩)) L1 else .no
  | _ => .no
end
end FL
namespace FL
open PySem PySem.Spec PyProof.Rows L2
section
variable {X : Cx} {Z : Zs} {W : WX} {e o a b i : Expr} {ma mb mo mi me mf : ME} {pos cpos apos p pp pq : Pos} {es : List Expr} {mr : MA} {ga : Ga} {K : PySem.W.Frag}
theorem walks_str {z : Str} {ι : List Addr} {H : Hp} : Walks K ga ι H (.vals (z.cps.toList.map fun c => .str ⟨#[c]⟩)) (Its z) := by
  intro ι2 L2 H2 e w i
  refine ⟨fun h => ?_, fun x h => ?_⟩
  · have h' : (z.cps.toList.map fun c => PV.str ⟨#[c]⟩)[i]? = none := by simpa [Src.get] using h
    have := List.getElem?_eq_none_iff.mp h'
    rw [List.length_map, Array.length_toList] at this; exact this
  · have h' : (z.cps.toList.map fun c => PV.str ⟨#[c]⟩)[i]? = some x := by simpa [Src.get] using h
    rw [List.getElem?_map] at h'
    obtain ⟨c, q1, rfl⟩ := Option.map_eq_some_iff.mp h'
    have q2 : z.cps[i]? = some c := by simpa using q1
    refine ⟨(Array.getElem?_eq_some_iff.mp q2).1, fun v H3 hy => ?_⟩
    obtain ⟨rfl, c', q3, rfl⟩ := hy
    rw [q2] at q3; cases q3
    exact ⟨Ext.refl, w, vrs⟩
/-- a list, a tuple or a text -/
def iA (m : ME) : MI := fun τ L => (m τ L).bind fun x L1 => match x with
  | .tup xs => .ok (.vals xs) L1
  | .rol xs => .ok (.vals xs) L1
  | .str z => .ok (.vals (z.cps.toList.map fun c => .str ⟨#[c]⟩)) L1
  | .obj n => (match L1[n]? with
    | some (.lst _) => .ok (.at_ n) L1
    | _ => .no)
  | _ => .no
theorem fi_a {tg : Expr} (h : FE Z X W e me) : FI Z X W tg e (iA me) := PI.imp (PI.or (pi_list h) (PI.or (pi_tup h) (pi_str h))) fun σ H Rr ⟨ι, L, τ, w, s, g⟩ => by
  by_cases h1 : ∃ xs L', me τ L = .ok (.tup xs) L'
  · obtain ⟨xs, L', e1⟩ := h1
    refine .inr (.inl ⟨ι, L, τ, w, s, gd.bind g fun x L1 ι1 u H1 e2 ext1 w1 r1 g1 => ?_⟩)
    rw [e1] at e2; cases e2
    obtain ⟨a, ys, rfl, h1, h2⟩ := r1
    exact ⟨a, rfl, ⟨ys, h1⟩, g1.ok w1 (walks_tup h1 h2)⟩
  · by_cases h2 : ∃ z L', me τ L = .ok (.str z) L'
    · obtain ⟨z, L', e1⟩ := h2
      refine .inr (.inr ⟨ι, L, τ, w, s, gd.bind g fun x L1 ι1 u H1 e2 ext1 w1 r1 g1 => ?_⟩)
      rw [e1] at e2; cases e2
      exact ⟨z, r1.s, g1.ok w1 walks_str⟩
    · refine .inl ⟨ι, L, τ, w, s, gd.bind g fun x L1 ι1 u H1 e2 ext1 w1 r1 g1 => ?_⟩
      cases x with
      | tup xs => exact (h1 ⟨xs, _, e2⟩).elim
      | str z => exact (h2 ⟨z, _, e2⟩).elim
      | rol xs =>
        obtain ⟨a, ys, rfl, h1, h2⟩ := r1
        exact ⟨a, rfl, ⟨ys, h1.sq⟩, g1.ok w1 (walks_rol h1 h2)⟩
      | obj n =>
        cases hl : L1[n]? with
        | none => simp only [hl] at g1; exact g1.elim
        | some o =>
          cases o with
          | lst xs =>
            simp only [hl] at g1
            obtain ⟨a, ys, rfl, hn, h1, h2⟩ := lst_at w1 r1 hl
            exact ⟨a, rfl, ⟨ys, SqL.of h1⟩, g1.ok w1 (walks_list hn)⟩
          | _ => simp only [hl] at g1; exact g1.elim
      | _ => exact g1.elim
/-- case (x1, ..): the slots is -/
def setAll : List Nat → List PV → Sl → Sl
  | i :: is, x :: xs, τ => setAll is xs (τ.set i (some x))
  | _, _, τ => τ
def repS (x : Str) (k : Int) : Str := if k < 1 then Str.empty else if (k == 1 || x.length == 0) = true then x else ⟨(List.replicate k.toNat x.cps).foldl (· ++ ·) #[]⟩
def rRepS : R2 := fun x y H Q => ∃ z k, x = .str z ∧ y = .int k ∧ 0 ≤ k ∧ k ≤ 1000 ∧ z.length ≤ 1000 ∧ Q (.str (repS z k)) H
theorem rep_size (c : Array Nat) : ∀ (m : Nat) (acc : Array Nat), (List.foldl (fun x1 x2 => x1 ++ x2) acc (List.replicate m c)).size = acc.size + m * c.size
  | 0, acc => by simp
  | m + 1, acc => by
    rw [List.replicate_succ, List.foldl_cons, rep_size c m (acc ++ c), Array.size_append, Nat.succ_mul]
    omega
theorem op_repS : OpR X (binaryOp .Mult) rRepS := by
  intro pins s σ H x y v u Q I rx ry h
  obtain ⟨z, k, rfl, rfl, h0, h1, hz, q⟩ := h
  obtain ⟨t, rfl⟩ := rx
  obtain ⟨t', rfl⟩ := ry
  refine P.mul_str ?_ (fun k1 _ z2 => ?_) (fun k1 _ => ?_) ?_
  · rw [decide_eq_false (by omega), decide_eq_false (by omega)]; rfl
  · have h3 : (z.length : Int) * k ≤ 1000 * 1000 := Int.mul_le_mul (by omega) h1 h0 (by omega)
    have h4 := (Int.le_ediv_iff_mul_le (a := (z.length : Int)) (b := 2 ^ 63 - 1) (show (0 : Int) < k by omega)).mpr (by omega)
    omega
  · have : z.length * k.toNat ≤ 1000 * 1000 := Nat.mul_le_mul hz (by omega)
    unfold Builtin.Str.tooLong
    rw [decide_eq_false]
    have e : sizeLine = 16777216 := rfl
    omega
  · unfold repS at q
    split
    · rename_i hk
      rw [if_pos hk] at q
      exact ⟨by decide, ⟨.str Str.empty, H, I.tok _, ⟨_, rfl⟩, q⟩⟩
    · rename_i hk
      rw [if_neg hk] at q
      split
      · rename_i h2
        rw [if_pos h2] at q
        exact ⟨.str z, H, I, ⟨_, rfl⟩, q⟩
      · rename_i h2
        rw [if_neg h2] at q
        refine ⟨?_, ⟨.str _, H, I.tok _, ⟨_, rfl⟩, q⟩⟩
        show (List.foldl (fun x1 x2 => x1 ++ x2) #[] (List.replicate k.toNat z.cps)).size ≤ sizeLine
        rw [rep_size]
        have h3 : k.toNat * z.cps.size ≤ 1000 * 1000 := Nat.mul_le_mul (by omega) hz
        have e : sizeLine = 16777216 := rfl
        have e0 : (#[] : Array Nat).size = 0 := rfl
        omega
def mulBF (x y : PV) (L : LH) : R PV := match x, y with
  | .str z, .int k => if 0 ≤ k ∧ k ≤ 1000 ∧ z.length ≤ 1000 then .ok (.str (repS z k)) L else .no
  | x, y => mulF x y L
def rMulB (K : PySem.W.Frag) : R2 := fun x y H Q => rRepS x y H Q ∨ rMulA K x y H Q
theorem op_mulB : OpR X (binaryOp .Mult) (rMulB X.K) := op_repS.or op_mulA
theorem mulBL : OpL K ga mulBF (rMulB K) := by
  intro W ι L H σ x y u v Q w rx ry g
  unfold mulBF at g
  split at g
  · split at g
    · rename_i hz
      exact .inl ⟨_, _, rx.s, ry.i, hz.1, hz.2.1, hz.2.2, g.ok w vrs⟩
    · exact g.elim
  · exact .inr (mulL W ι L H σ _ _ u v Q w rx ry g)
end
end FL
namespace FL
open PySem PySem.Spec PyProof.Rows L2
end FL
namespace FL
open PySem PySem.Spec PyProof.Rows L2
theorem boot_b_isinstance : bootBuiltins "isinstance" = some (.builtin "isinstance") := by decide +kernel
theorem boot_b_len : bootBuiltins "len" = some (.builtin "len") := by decide +kernel
theorem boot_b_all : bootBuiltins "all" = some (.builtin "all") := by decide +kernel
theorem boot_b_max : bootBuiltins "max" = some (.builtin "max") := by decide +kernel
theorem boot_b_min : bootBuiltins "min" = some (.builtin "min") := by decide +kernel
theorem boot_b_repr : bootBuiltins "repr" = some (.builtin "repr") := by decide +kernel
theorem boot_b_sorted : bootBuiltins "sorted" = some (.builtin "sorted") := by decide +kernel
theorem boot_t_int : bootBuiltins "int" = some (.type "int") := by decide +kernel
theorem boot_t_bool : bootBuiltins "bool" = some (.type "bool") := by decide +kernel
theorem boot_t_tuple : bootBuiltins "tuple" = some (.type "tuple") := by decide +kernel
theorem boot_t_dict : bootBuiltins "dict" = some (.type "dict") := by decide +kernel
section
variable {X : Cx} {K : PySem.W.Frag} {ga : Ga} {f : Str}
theorem gN_L {i : Nat} (x : PV) (τ : Sl) (L : LH) (τ' : Sl) (L' : LH) (h : gN i x τ L = .ok τ' L') : L' = L := by cases h; rfl
theorem ps_nil : ∀ (C : Str) (m : Fn), ([] : List (Str × Fn)).lookup C = some m → Prp X ga C f m := fun C m h => nomatch h
theorem lookup_cons {α : Type} {C D : Str} {x : α} {l : List (Str × α)} {y : α} (h : ((C, x) :: l).lookup D = some y) : (D = C ∧ y = x) ∨ l.lookup D = some y := by
  rw [List.lookup_cons] at h
  cases q : D == C with
  | true => rw [q] at h; cases h; exact .inl ⟨beq_iff_eq.mp q, rfl⟩
  | false => rw [q] at h; exact .inr h
theorem ps_cons {C : Str} {m : Fn} {ps : List (Str × Fn)} (h : Prp X ga C f m) (r : ∀ (C : Str) (m : Fn), ps.lookup C = some m → Prp X ga C f m) : ∀ (D : Str) (m' : Fn), ((C, m) :: ps).lookup D = some m' → Prp X ga D f m' := fun D m' h' => by
  rcases lookup_cons h' with ⟨rfl, rfl⟩ | q
  · exact h
  · exact r _ _ q
theorem ms_nil : ∀ (C : Str) (m : Fn), ([] : List (Str × Fn)).lookup C = some m → Mt X ga C f m := fun C m h => nomatch h
theorem ms_cons {C : Str} {m : Fn} {ps : List (Str × Fn)} (h : Mt X ga C f m) (r : ∀ (C : Str) (m : Fn), ps.lookup C = some m → Mt X ga C f m) : ∀ (D : Str) (m' : Fn), ((C, m) :: ps).lookup D = some m' → Mt X ga D f m' := fun D m' h' => by
  rcases lookup_cons h' with ⟨rfl, rfl⟩ | q
  · exact h
  · exact r _ _ q
theorem ini {C : Str} {fi : Addr} {fd : FuncData} {ps ks : List Str} {k k0 n np : Nat} {m : Fn} {gP : List PV → List PV → List PV} (M : L2.Mk X.K (ga C) fi) (F : FnM X.prog X.w X.K X.mg X.base ga k fi fd ps m) (hb : BindF X.K ga fd ps (n + 1) ks gP) (hl : ∀ xs L, xs.length ≠ np → m xs L = .no) (hgd : X.A.guards = some []) (hr : Room k0 X.A)
    (hk : k + 1 ≤ k0 := by first | decide | omega | (simp only [Nat.add_eq]; omega)) (hn : ps.length = np := by rfl) : Ini X ga C n ks gP m := ⟨⟨fi, k, fd, ps, M, F, hr.mono hk, hb, fun xs L h => hl xs L (by rw [← hn]; exact h)⟩, hgd⟩
end
end FL
namespace FL
open PySem PySem.Spec PyProof.Rows L2
section
variable {X : Cx} {Z : Zs} {W : WX} {e o a b : Expr} {ma mb mo me : ME} {pos p apos cpos : Pos} {es : List Expr} {mr : MA} {K : PySem.W.Frag} {ga : Ga}
structure Mi (X : Cx) (ga : Ga) (C : Str) (mn : Str) (np : Nat) (m : Fn) : Prop where
  cl : Cls X.K (ga C)
  ex : ∃ (f : Addr) (k : Nat) (fd : FuncData) (ps : List Str), Meth X.K (ga C) mn f ∧ PySem.W.fnIn X.K f = true ∧ FnM X.prog X.w X.K X.mg X.base ga k f fd ps m ∧ Room (k + 1) X.A ∧ Binds X.K fd ps [] ∧ ps.length = np
  gd : X.A.guards = some []
  len : ∀ xs L, xs.length ≠ np → m xs L = .no
theorem mi {C mn : Str} {f : Addr} {fd : FuncData} {ps : List Str} {k k0 np : Nat} {m : Fn} (c : Cls X.K (ga C)) (h : Meth X.K (ga C) mn f) (hf : PySem.W.fnIn X.K f = true) (F : FnM X.prog X.w X.K X.mg X.base ga k f fd ps m) (hb : Binds X.K fd ps []) (hl : ∀ xs L, xs.length ≠ np → m xs L = .no) (hgd : X.A.guards = some []) (hr : Room k0 X.A)
    (hk : k + 1 ≤ k0 := by first | decide | omega | (simp only [Nat.add_eq]; omega)) (hn : ps.length = np := by rfl) : Mi X ga C mn np m := ⟨c, ⟨f, k, fd, ps, h, hf, F, hr.mono hk, hb, hn⟩, hgd, hl⟩
theorem Mi.run {np : Nat} {m : Fn} {pins : List (Addr × Obj)} {σ : L2.St} {H : Hp} {s : Shared} {Q : VK} {us : List Value} {vs : List V} {ι : List Addr} {L : LH} {xs : List PV} {f : Addr} {k : Nat} {fd : FuncData} {ps : List Str} (F : FnM X.prog X.w X.K X.mg X.base Z.f k f fd ps m) (hr : Room (k + 1) X.A) (hb : Binds X.K fd ps []) (hn : ps.length = np) (hgd : X.A.guards = some []) (hl : ∀ xs L, xs.length ≠ np → m xs L = .no)
    (tk : Tk X W) (I : Inv X pins σ H s) (r : Vals vs us) (wd : Wd X.K Z.f ι L H) (rx : VRs X.K Z.f ι H xs vs) (g : FL.gd X.K Z.f W (VR X.K Z.f) (m xs L) ι H σ fun _ _ _ v H' => Q v H') : wpAny (model X.prog X.w) X.A.in1 (call (.ref f) us) (EP X pins σ Q) X.xe s := by
  have hlen : vs.length = ps.length := by
    rw [← rx.len]
    by_cases h : xs.length = ps.length
    · exact h
    · rw [hl xs L (by rw [← hn]; exact h)] at g; exact g.elim
  have hsp : spM ps.length X.K Z.f m vs H Q (fun c d H => W c d σ H) := ⟨hlen, ι, L, xs, wd, rx, g⟩
  have hu : us.length = ps.length := r.length ▸ hlen
  have hb' := hb s us I.kIn (by rw [List.append_nil]; exact hu)
  rw [List.append_nil] at hb'
  refine wpAny_call (codeAny_mono (F.run X.A.in1 X.stack s H ⟨us, []⟩ us vs Q _ hgd hr.in1 I.env0.in1 hb' r hsp) fun r s' hq => ?_)
  match r, hq with
  | .error e, hq => exact tk pins σ H s _ e s' I (fun _ _ _ z => z) hq
  | .ok (.ret u), hq => exact I.after hq
  | .ok .next, hq => exact hq.elim
  | .ok .brk, hq => exact hq.elim
  | .ok .cont, hq => exact hq.elim
end
end FL
namespace FL
open PySem PySem.Spec PyProof.Rows L2
def compD (s : Src) (g : MG) (t : MT) (mk mv : ME) : Nat → Nat → List (Key × PV) → Sl → LH → R (List (Key × PV))
  | 0, _, _, _, _ => .no
  | n + 1, i, acc, τ, L => match s.get L i with
    | none => .no
    | some none => .ok acc L
    | some (some x) => match g x τ L with
      | .ok τ1 _ => (t τ1 L).bind0 fun b L2 => if b = true then (mk τ1 L2).bind0 fun y L3 => (mv τ1 L3).bind0 fun z L4 => match toK y with
          | some k => if acc.length < sizeLine then compD s g t mk mv n (i + 1) (putD acc k z) τ L4 else .no
          | none => .no else compD s g t mk mv n (i + 1) acc τ L2
      | _ => .no
def eDc (mi : MI) (g : MG) (t : MT) (mk mv : ME) (own : List Nat) : ME := fun τ L => (mi τ L).bind fun s L1 => (compD s g t mk mv (s.len L1 + 1) 0 [] (wipeP τ own) L1).bind fun kvs L2 => .ok (.obj L2.length) (L2 ++ [.dct kvs])
section
variable {X : Cx} {Z : Zs} {W : WX} {tc : MT} {g : MG} {mk mv : ME} {own : List Nat} {pos : Pos}
theorem dc_read {K : PySem.W.Frag} {mi : MI} {σ : L2.St} {H : Hp} {Q : VK} {ι : List Addr} {L : LH} {τ : Sl} (w : Wd K Z.f ι L H) (s : SR K Z ι H τ σ) (hz : own.all Z.ok = true) (h : gd K Z.f W (VR K Z.f) (eDc mi g tc mk mv own τ L) ι H σ fun _ _ _ v H' => Q v H') :
    tDc (tI K Z W mi) (tGo K Z own g) (tM K Z W0 relB tc) (tM K Z W0 (VR K Z.f) mk) (tM K Z W0 (VR K Z.f) mv) own σ H Q := by
  refine ⟨ι, L, τ, w, s, ?_⟩
  unfold eDc at h
  cases hq : mi τ L with
  | no => rw [hq] at h; exact h
  | ex c fs L1 => rw [hq] at h; exact h
  | ok sr L1 =>
    rw [hq] at h
    have h : gd K Z.f W (VR K Z.f) ((compD sr g tc mk mv (sr.len L1 + 1) 0 [] (wipeP τ own) L1).bind fun kvs L2 => .ok (.obj L2.length) (L2 ++ [.dct kvs])) ι H σ fun _ _ _ v H' => Q v H' := h
    intro ι1 H1 J e1 w1 wk D hD
    have hD0 : Fre H D := by
      by_cases hi : D ∈ ι
      · obtain ⟨⟨δ, rfl, _⟩, _⟩ := e1
        obtain ⟨ho, q1, _⟩ := w1.some (List.mem_append_left _ hi)
        rw [hD] at q1; cases q1
      · exact e1.fre hi (.of hD)
    have hDi : D ∉ ι1 := fun z => by
      obtain ⟨ho, q1, _⟩ := w1.some z
      rw [hD] at q1; cases q1
    have eD := Ext.new (K := K) (ι := ι1) (o := .dK []) hD
    have wkD := wk.up eD
    have sw := s.wipe own hz
    refine ⟨fun i m H' => ∃ ι2 L2 acc ys, Ext K ι1 H1 ι2 H' ∧ Wd K Z.f ι2 L2 H' ∧ SR K Z ι2 H' (wipeP τ own) (wipe σ own) ∧ D ∉ ι2 ∧ H' D = some (.dK ys) ∧ DRs K Z.f ι2 H' acc ys ∧ gd K Z.f W (VR K Z.f) ((compD sr g tc mk mv m i acc (wipeP τ own) L2).bind fun kvs L2 => .ok (.obj L2.length) (L2 ++ [.dct kvs])) ι H σ fun _ _ _ v H' => Q v H',
      ⟨_, ι1, L1, [], [], eD, w1.new hD, (sw.up e1).up eD, hDi, upd_same, by simp [DRs], h⟩, ?_⟩
    rintro i m H2 ⟨ι2, L2, acc, ys, e2, w2, s2, n2, d2, r2, g2⟩
    cases m with
    | zero => exact g2.elim
    | succ m =>
      unfold compD at g2
      cases hs : sr.get L2 i with
      | none => rw [hs] at g2; exact g2.elim
      | some o =>
        rw [hs] at g2
        cases o with
        | none =>
          refine .inl ⟨(wk ι2 L2 H2 e2 w2 i).1 hs, ?_⟩
          have g2 : gd K Z.f W (VR K Z.f) (.ok (.obj L2.length) (L2 ++ [.dct acc])) ι H σ fun _ _ _ v H' => Q v H' := g2
          have wA := w2.adopt (o := .dct acc) d2 n2 ⟨ys, rfl, r2⟩
          refine g2 _ _ (.ref D) ((e1.trans e2).adopt hD0) wA ⟨D, ?_, rfl⟩
          rw [← w2.len]
          simp
        | some x =>
          dsimp only at g2
          obtain ⟨hgo, hy⟩ := (wk ι2 L2 H2 e2 w2 i).2 x hs
          refine .inr ⟨hgo, fun H' => ∃ ι2 L2 acc ys, Ext K ι1 H1 ι2 H' ∧ Wd K Z.f ι2 L2 H' ∧ SR K Z ι2 H' (wipeP τ own) (wipe σ own) ∧ D ∉ ι2 ∧ H' D = some (.dK ys) ∧ DRs K Z.f ι2 H' acc ys ∧ gd K Z.f W (VR K Z.f) ((compD sr g tc mk mv m (i + 1) acc (wipeP τ own) L2).bind fun kvs L2 => .ok (.obj L2.length) (L2 ++ [.dct kvs])) ι H σ fun _ _ _ v H' => Q v H', fun H' q => ⟨m, Nat.lt_succ_self m, q⟩, fun v H3 yy => ?_⟩
          obtain ⟨e3, w3, r3⟩ := hy v H3 yy
          refine ⟨ι2, L2, wipeP τ own, x, w3, s2.up e3, r3, ?_⟩
          cases hg : g x (wipeP τ own) L2 with
          | no => rw [hg] at g2; exact g2.elim
          | ex => rw [hg] at g2; exact g2.elim
          | ok τ4 L4 =>
            rw [hg] at g2
            dsimp only at g2
            intro σ4 s4 z4
            refine ⟨z4.trans (wipe_wipe _ _), ι2, L2, τ4, w3, s4, ?_⟩
            cases ht : tc τ4 L2 with
            | no => rw [ht] at g2; exact g2.elim
            | ex => rw [ht] at g2; exact g2.elim
            | ok bv L5 =>
              rw [ht] at g2
              intro ι5 H5 bv' e5 w5 eb
              cases (show bv = bv' from eb)
              have g2 : gd K Z.f W (VR K Z.f) ((if bv = true then (mk τ4 L5).bind0 fun y L3 => (mv τ4 L3).bind0 fun z L4 => match toK y with
                | some k => if acc.length < sizeLine then compD sr g tc mk mv m (i + 1) (putD acc k z) (wipeP τ own) L4 else .no
                | none => .no else compD sr g tc mk mv m (i + 1) acc (wipeP τ own) L5).bind fun kvs L2 => .ok (.obj L2.length) (L2 ++ [.dct kvs])) ι H σ fun _ _ _ v H' => Q v H' := g2
              have e35 := e3.trans e5
              obtain ⟨d5, n5⟩ := e35.keep d2 n2
              cases bv with
              | false =>
                rw [if_neg Bool.false_ne_true] at g2 ⊢
                exact ⟨ι5, L5, acc, ys, e2.trans e35, w5, s2.up e35, n5, d5, r2.up e35, g2⟩
              | true =>
                rw [if_pos rfl] at g2 ⊢
                refine ⟨ι5, L5, τ4, w5, s4.up e5, ?_⟩
                cases hm : mk τ4 L5 with
                | no => rw [hm] at g2; exact g2.elim
                | ex => rw [hm] at g2; exact g2.elim
                | ok y L6 =>
                  rw [hm] at g2
                  intro ι6 H6 yv e6 w6 ry
                  have g2 : gd K Z.f W (VR K Z.f) (((mv τ4 L6).bind0 fun z L4 => match toK y with
                    | some k => if acc.length < sizeLine then compD sr g tc mk mv m (i + 1) (putD acc k z) (wipeP τ own) L4 else .no
                    | none => R.no).bind fun (kvs : List (Key × PV)) L2 => R.ok (PV.obj L2.length) (L2 ++ [LO.dct kvs])) ι H σ fun _ _ _ v H' => Q v H' := g2
                  refine ⟨ι6, L6, τ4, w6, (s4.up e5).up e6, ?_⟩
                  cases hv : mv τ4 L6 with
                  | no => rw [hv] at g2; exact g2.elim
                  | ex => rw [hv] at g2; exact g2.elim
                  | ok z L7 =>
                    rw [hv] at g2
                    intro ι7 H7 zv e7 w7 rz
                    have g2 : gd K Z.f W (VR K Z.f) ((match toK y with
                      | some k => if acc.length < sizeLine then compD sr g tc mk mv m (i + 1) (putD acc k z) (wipeP τ own) L7 else .no
                      | none => R.no).bind fun (kvs : List (Key × PV)) L2 => R.ok (PV.obj L2.length) (L2 ++ [LO.dct kvs])) ι H σ fun _ _ _ v H' => Q v H' := g2
                    cases hk : toK y with
                    | none => rw [hk] at g2; exact g2.elim
                    | some k =>
                      rw [hk] at g2
                      dsimp only at g2
                      have e37 := (e35.trans e6).trans e7
                      obtain ⟨d7, n7⟩ := e37.keep d2 n2
                      have r7 := r2.up e37
                      split at g2
                      · rename_i hz
                        refine ⟨ys, k, toK_ok ry hk, d7, by rw [← r2.len]; exact hz, ?_⟩
                        have u7 := Up.tmp (K := K) (ι := ι7) (o := .dK (putK ys k zv)) d7 True.intro
                        refine ⟨ι7, L7, putD acc k z, putK ys k zv, (e2.trans e37).tmp (.of hD) d7 True.intro, w7.tmp d7 True.intro n7, (s2.up e37).tmp d7 True.intro, n7, upd_same, DRs.put (rz.upU u7) (r7.upU u7), g2⟩
                      · exact g2.elim
/-- {k: v for ..} -/
theorem fe_dc {kx vx tg iter : Expr} {ifs : List Expr} {scope : Scope} {ow : List (Str × Nat)} {mi : MI} (hc : X.calm = true) (hN : X.N.Nodup) (hi : FI Z X W tg iter mi) (ok : BlkOk X.N X.env.scope scope ow)
    (hg : ∀ (s : Shared) (H : Hp) (C : Addr) (cl : List (Str × Addr)) (fp : List Addr), FGo Z (X.blk s H scope (compEnvC scope cl C X.env) fp) (ow.map (·.2)) tg g) (ht : ∀ (s : Shared) (H : Hp) (C : Addr) (cl : List (Str × Addr)) (fp : List Addr), FTs Z (X.blk s H scope (compEnvC scope cl C X.env) fp) W0 ifs tc)
    (hk : ∀ (s : Shared) (H : Hp) (C : Addr) (cl : List (Str × Addr)) (fp : List Addr), FE Z (X.blk s H scope (compEnvC scope cl C X.env) fp) W0 kx mk) (hv : ∀ (s : Shared) (H : Hp) (C : Addr) (cl : List (Str × Addr)) (fp : List Addr), FE Z (X.blk s H scope (compEnvC scope cl C X.env) fp) W0 vx mv)
    (hs : ∀ x, foldedSetIterable iter X.env x = pure x := by intro _; rfl) (hz : (ow.map (·.2)).all Z.ok = true := by rfl) :
    FE Z X W (.DictComp kx vx [⟨tg, iter, ifs, 0⟩] scope pos) (eDc mi g tc mk mv (ow.map (·.2))) :=
  PE.imp (pe_dc hc hN hi ok hg ht hk hv hs) fun σ H Q ⟨ι, L, τ, w, s, h⟩ => dc_read w s hz h
end
end FL
namespace FL
open PySem PySem.Spec PyProof.Rows L2 LamX
section
variable {X : Cx} {Z : Zs} {W : WX} {me : ME}
theorem SR.upU {K : PySem.W.Frag} {ι ι' : List Addr} {H H' : Hp} {τ : Sl} {σ : L2.St} (s : SR K Z ι H τ σ) (e : Up K ι H ι' H') (hz : Z.gh = []) : SR K Z ι' H' τ σ :=
  ⟨s.len, fun i x q => let ⟨v, a, b⟩ := s.at_ i x q; ⟨v, a, b.upU e⟩, fun g hg => by rw [hz] at hg; cases hg⟩
end
end FL
namespace FL
open PySem PySem.Spec PyProof.Rows L2
/-- the function at a -/
def fdA (K : PySem.W.Frag) (a : Addr) : FuncData := match K.lookup a with
  | some ⟨_, _, .func fd, _⟩ => fd
  | _ => PySem.W.fnOf "" "" ⟨[], [], none, [], [], none, []⟩ [] ⟨.function, [], false, false, []⟩ .none .none .none .none none .none .none
theorem fdA_of {K : PySem.W.Frag} {x qual : Str} {params : Arguments} {body : List Stmt} {scope : Scope} {dvs : List V} {kws : List (Str × V)} {f : Addr} {fd : FuncData} (F : FunD K x qual params body scope dvs kws f fd) : FunD K x qual params body scope dvs kws f (fdA K f) := by
  obtain ⟨oc, od, dV, kV, doc, pm, an, cdv, ct, osl, e, lk, h⟩ := F.ex
  have z : fdA K f = fd := by unfold fdA; rw [lk]
  rw [z]; exact F
/-- a method of C -/
abbrev me (K : PySem.W.Frag) (ga : Ga) (C m : Str) : Addr := He.ma K (ga C) m
/-- what a property of C calls -/
def pg (K : PySem.W.Frag) (ga : Ga) (C p : Str) : Addr := match PySem.W.recIn K (me K ga C p) "property" with
  | some (.ref g :: _) => g
  | _ => 0
def noF : List PV → LH → R PV := fun _ _ => .no
end FL
namespace FL
open PySem PySem.Spec PyProof.Rows L2
theorem v1 {A : Around} (h : A.units + 65 < cLine) : A.units + 1 < cLine := by omega
end FL
namespace FL
open PySem PySem.Spec PyProof.Rows L2
mutual
/-- only objects below n are told -/
def refB (n : Nat) : PV → Bool
  | .tup xs => refBs n xs
  | .rol xs => refBs n xs
  | .obj k => Nat.blt k n
  | _ => true
def refBs (n : Nat) : List PV → Bool
  | [] => true
  | x :: xs => refB n x && refBs n xs
end
def refO (n : Nat) : LO → Bool
  | .lst xs => refBs n xs
  | .dct kvs => refBs n (kvs.map (·.2))
  | .fdct kvs => refBs n (kvs.map (·.2))
  | .ins _ fs => refBs n (fs.map (·.2))
  | .sli _ vs => refBs n (vs.filterMap id)
  | .odd k v => refBs n [k, v]
def refH (n : Nat) (L : LH) : Bool := L.all (refO n)
def keepS (ks : List Nat) : Nat → Sl → Sl
  | _, [] => []
  | i, x :: τ => (if ks.contains i then x else none) :: keepS ks (i + 1) τ
def refT (n : Nat) : Sl → Bool
  | [] => true
  | none :: τ => refT n τ
  | some x :: τ => refB n x && refT n τ
def gcK (ks : List Nat) (L : LH) (τ' : Sl) (L' : LH) (k : Sl → LH → RS) : RS :=
  if refH L.length (L'.take L.length) = true ∧ L.length ≤ L'.length ∧ refT L.length (keepS ks 0 τ') = true then k (keepS ks 0 τ') (L'.take L.length) else .no
/-- only the slots ks stay, and the objects that were there -/
def gcS (ks : List Nat) (m : MS) : MS := fun τ L => match m τ L with
  | .nx τ' L' => gcK ks L τ' L' .nx
  | .ct τ' L' => gcK ks L τ' L' .ct
  | r => r
section
variable {K : PySem.W.Frag} {ga : Ga} {ι δ : List Addr} {H H' : Hp} {L' : LH}
mutual
theorem VR.cut : ∀ {x : PV} {v : V}, VR K ga (ι ++ δ) H x v → refB ι.length x = true → VR K ga ι H x v
  | .non, _, h, _ => h
  | .bl _, _, h, _ => h
  | .int _, _, h, _ => h
  | .str _, _, h, _ => h
  | .tup xs, _, h, r => by obtain ⟨a, ys, e1, e2, e3⟩ := h; exact ⟨a, ys, e1, e2, VRs.cutR e3 r⟩
  | .rol xs, _, h, r => by obtain ⟨a, ys, e1, e2, e3⟩ := h; exact ⟨a, ys, e1, e2, VRs.cutR e3 r⟩
  | .obj n, _, h, r => by
    obtain ⟨a, e1, e2⟩ := h
    have hn : n < ι.length := Nat.blt_eq.mp r
    rw [List.getElem?_append_left hn] at e1
    exact ⟨a, e1, e2⟩
  | .glo _, _, h, _ => h
  | .ty _, _, h, _ => h
theorem VRs.cutR : ∀ {xs : List PV} {vs : List V}, VRs K ga (ι ++ δ) H xs vs → refBs ι.length xs = true → VRs K ga ι H xs vs
  | [], _, h, _ => h
  | x :: xs, _, h, r => by
    obtain ⟨y, t, e1, e2, e3⟩ := h
    simp only [refBs, Bool.and_eq_true] at r
    exact ⟨y, t, e1, VR.cut e2 r.1, VRs.cutR e3 r.2⟩
end
theorem DRs.cut : ∀ {xs : List (Key × PV)} {l : List (Key × V)}, DRs K ga (ι ++ δ) H xs l → refBs ι.length (xs.map (·.2)) = true → DRs K ga ι H xs l
  | [], _, h, _ => h
  | x :: xs, _, h, r => by
    obtain ⟨y, t, e1, e2, e3⟩ := h
    simp only [List.map_cons, refBs, Bool.and_eq_true] at r
    exact ⟨y, t, e1, VR.cut e2 r.1, DRs.cut e3 r.2⟩
theorem FRs.cut : ∀ {xs : List (Str × PV)} {l : List (Str × V)}, FRs K ga (ι ++ δ) H xs l → refBs ι.length (xs.map (·.2)) = true → FRs K ga ι H xs l
  | [], _, h, _ => h
  | x :: xs, _, h, r => by
    obtain ⟨y, t, e1, e2, e3⟩ := h
    simp only [List.map_cons, refBs, Bool.and_eq_true] at r
    exact ⟨y, t, e1, VR.cut e2 r.1, FRs.cut e3 r.2⟩
theorem refBs_mem {n : Nat} : ∀ {xs : List PV}, refBs n xs = true → ∀ x ∈ xs, refB n x = true
  | [], _, x, hx => nomatch hx
  | y :: xs, r, x, hx => by
    simp only [refBs, Bool.and_eq_true] at r
    rcases List.mem_cons.mp hx with e | hx
    · rw [e]; exact r.1
    · exact refBs_mem r.2 x hx
theorem refBs_all {n : Nat} : ∀ {xs : List PV}, (∀ x ∈ xs, refB n x = true) → refBs n xs = true
  | [], _ => rfl
  | y :: xs, h => by
    simp only [refBs, Bool.and_eq_true]
    exact ⟨h y List.mem_cons_self, refBs_all fun x hx => h x (List.mem_cons_of_mem _ hx)⟩
theorem ORs.cut {vs : List (Option PV)} {ws : List (Option V)} (h : ORs K ga (ι ++ δ) H vs ws) (r : refBs ι.length (vs.filterMap id) = true) : ORs K ga ι H vs ws :=
  ⟨h.1, fun i x q => let ⟨v, a, b⟩ := h.2 i x q; ⟨v, a, b.cut (refBs_mem r x (List.mem_filterMap.mpr ⟨_, List.mem_of_getElem? q, rfl⟩))⟩⟩
theorem OA.cut {a : Addr} {o : LO} {ho : HO} (h : OA K ga (ι ++ δ) H a o ho) (r : refO ι.length o = true) : OA K ga ι H a o ho := by
  cases o with
  | lst xs => obtain ⟨ys, e, h⟩ := h; exact ⟨ys, e, VRs.cutR h r⟩
  | dct xs => obtain ⟨ys, e, h⟩ := h; exact ⟨ys, e, DRs.cut h r⟩
  | fdct xs => obtain ⟨od, ys, e, h⟩ := h; exact ⟨od, ys, e, DRs.cut h r⟩
  | ins C xs => obtain ⟨dx, ys, e, h⟩ := h; exact ⟨dx, ys, e, FRs.cut h r⟩
  | sli C xs => obtain ⟨dx, ys, e, d, h⟩ := h; exact ⟨dx, ys, e, d, ORs.cut h r⟩
  | odd k v => obtain ⟨ob, kv, vv, e, d, h⟩ := h; exact ⟨ob, kv, vv, e, d, VRs.cutR h r⟩
theorem Wd.cut {n : Nat} (w : Wd K ga (ι ++ δ) L' H) (hn : ι.length = n) (r : refH n (L'.take n) = true) (hl : n ≤ L'.length) : Wd K ga ι (L'.take n) H := by
  refine ⟨by rw [List.length_take, Nat.min_eq_left hl, hn], (List.nodup_append.mp w.nd).1, fun m a o h1 h2 => ?_, w.tb⟩
  have hm : m < ι.length := (List.getElem?_eq_some_iff.mp h1).1
  have h2' : L'[m]? = Option.some o := by
    rw [List.getElem?_take_of_lt (by rw [← hn]; exact hm)] at h2; exact h2
  obtain ⟨ho, q1, q2⟩ := w.at_ m a o (by rw [List.getElem?_append_left hm]; exact h1) h2'
  have ro : refO n o = true := List.all_eq_true.mp r o (List.mem_of_getElem? h2)
  exact ⟨ho, q1, q2.cut (by rw [hn]; exact ro)⟩
theorem Ext.drop {ι' : List Addr} (e : Ext K ι H ι' H') : Ext K ι H ι H' := ⟨⟨[], by simp, fun _ h => nomatch h⟩, e.st, e.tp, e.ro, e.fz, e.ow, e.xd⟩
theorem keepS_get {ks : List Nat} : ∀ (τ : Sl) (j i : Nat) (x : PV), (keepS ks j τ)[i]? = some (some x) → τ[i]? = some (some x)
  | [], _, _, _, h => by simp [keepS] at h
  | y :: τ, j, 0, x, h => by
    simp only [keepS, List.getElem?_cons_zero, Option.some.injEq] at h
    split at h
    · simp [h]
    · cases h
  | y :: τ, j, i + 1, x, h => by
    simp only [keepS, List.getElem?_cons_succ] at h
    simpa using keepS_get τ (j + 1) i x h
theorem keepS_len {ks : List Nat} : ∀ (τ : Sl) (j : Nat), (keepS ks j τ).length = τ.length
  | [], _ => rfl
  | y :: τ, j => by simp [keepS, keepS_len τ (j + 1)]
theorem refT_get {n : Nat} : ∀ (τ : Sl) (i : Nat) (x : PV), refT n τ = true → τ[i]? = some (some x) → refB n x = true
  | [], _, _, _, h => by simp at h
  | none :: τ, 0, _, _, h => by simp at h
  | none :: τ, i + 1, x, r, h => refT_get τ i x r (by simpa using h)
  | some y :: τ, 0, x, r, h => by
    simp only [refT, Bool.and_eq_true] at r
    simp at h; subst h; exact r.1
  | some y :: τ, i + 1, x, r, h => by
    simp only [refT, Bool.and_eq_true] at r
    exact refT_get τ i x r.2 (by simpa using h)
theorem SR.cut {Z : Zs} {τ : Sl} {σ : L2.St} {ks : List Nat} (s : SR K Z (ι ++ δ) H τ σ) (hz : Z.gh = []) (r : refT ι.length (keepS ks 0 τ) = true) : SR K Z ι H (keepS ks 0 τ) σ :=
  ⟨by rw [keepS_len]; exact s.len, fun i x q => by
    obtain ⟨v, h1, h2⟩ := s.at_ i x (keepS_get τ 0 i x q)
    exact ⟨v, h1, h2.cut (refT_get _ i x r q)⟩, fun g hg => by rw [hz] at hg; cases hg⟩
end
section
variable {X : Cx} {Z : Zs} {W : WX} {c : Expr} {tc : MT} {sts : List Stmt} {st : Stmt} {m : MS}
theorem gcK_nx {K : PySem.W.Frag} {ι : List Addr} {H : Hp} {L : LH} {τ' : Sl} {L' : LH} {ks : List Nat} {D : Ends} (w : Wd K Z.f ι L H) (hz : Z.gh = []) (g : gs K Z W (gcK ks L τ' L' .nx) ι H D) : gs K Z W (.nx τ' L') ι H D := by
  unfold gcK at g
  split at g
  · rename_i hr
    intro ι' H' σ' e w' s'
    obtain ⟨δ, rfl, _⟩ := id e.gr
    exact g ι H' σ' e.drop (w'.cut w.len hr.1 hr.2.1) (s'.cut hz (by rw [w.len]; exact hr.2.2))
  · exact g.elim
theorem gcK_ct {K : PySem.W.Frag} {ι : List Addr} {H : Hp} {L : LH} {τ' : Sl} {L' : LH} {ks : List Nat} {D : Ends} (w : Wd K Z.f ι L H) (hz : Z.gh = []) (g : gs K Z W (gcK ks L τ' L' .ct) ι H D) : gs K Z W (.ct τ' L') ι H D := by
  unfold gcK at g
  split at g
  · rename_i hr
    intro ι' H' σ' e w' s'
    obtain ⟨δ, rfl, _⟩ := id e.gr
    exact g ι H' σ' e.drop (w'.cut w.len hr.1 hr.2.1) (s'.cut hz (by rw [w.len]; exact hr.2.2))
  · exact g.elim
theorem gs_gc {K : PySem.W.Frag} {ι : List Addr} {H : Hp} {L : LH} {τ : Sl} {ks : List Nat} {D : Ends} (w : Wd K Z.f ι L H) (hz : Z.gh = []) (g : gs K Z W (gcS ks m τ L) ι H D) : gs K Z W (m τ L) ι H D := by
  unfold gcS at g
  cases hm : m τ L with
  | nx τ' L' => rw [hm] at g; exact gcK_nx w hz g
  | ct τ' L' => rw [hm] at g; exact gcK_ct w hz g
  | bk => rw [hm] at g; exact g
  | rt => rw [hm] at g; exact g
  | ex => rw [hm] at g; exact g
  | no => rw [hm] at g; exact g
theorem fss_gc (ks : List Nat) (h : FSs Z X W sts m) (hz : Z.gh = [] := by rfl) : FSs Z X W sts (gcS ks m) := PSs.imp h fun D σ H ⟨ι, L, τ, w, s, g⟩ => ⟨ι, L, τ, w, s, gs_gc w hz g⟩
end
end FL
namespace FL
open PySem PySem.Spec PyProof.Rows L2
section
variable {τ τ' : Sl} {L L1 L2 L3 : LH} {x y z v : PV} {xs ys : List PV} {ma mb mc : ME} {mr : MA} {f : PV → PV → LH → R PV} {g : MG} {a b : MS} {c : MT} {k : Bool} {r : R PV} {rs : RS} {i : Int} {p : Nat}
theorem x_v {i : Nat} (h : τ[i]? = some (some x)) : eV i τ L = .ok x L := by unfold eV; rw [h]
theorem x_c : eC x τ L = .ok x L := rfl
theorem x_op (h1 : ma τ L = .ok x L1) (h2 : mb τ L1 = .ok y L2) (h3 : f x y L2 = r) : eOp f ma mb τ L = r := by unfold eOp; rw [h1]; show (mb τ L1).bind _ = _; rw [h2]; exact h3
theorem x_n : aN τ L = .ok [] L := rfl
theorem x_a (h1 : ma τ L = .ok x L1) (h2 : mr τ L1 = .ok xs L2) : aC ma mr τ L = .ok (x :: xs) L2 := by unfold aC; rw [h1]; show (mr τ L1).bind _ = _; rw [h2]; rfl
theorem x_f {fn : Fn} (h1 : mr τ L = .ok xs L1) (h2 : fn xs L1 = r) : eF fn mr τ L = r := by unfold eF; rw [h1]; exact h2
theorem x_as (h1 : ma τ L = .ok x L1) (h2 : g x τ L1 = .ok τ' L2) : sAs ma g τ L = .nx τ' L2 := by unfold sAs; rw [h1]; show (g x τ L1).nx = _; rw [h2]; rfl
theorem x_seq (h1 : a τ L = .nx τ' L1) (h2 : b τ' L1 = rs) : sSeq a b τ L = rs := by unfold sSeq; rw [h1]; exact h2
theorem x_seq_rt (h1 : a τ L = .rt x L1) : sSeq a b τ L = .rt x L1 := by unfold sSeq; rw [h1]
theorem x_if (h1 : c τ L = .ok k L1) (h2 : (if k = true then a τ L1 else b τ L1) = rs) : sIf c a b τ L = rs := by unfold sIf; rw [h1]; exact h2
theorem x_rt (h1 : ma τ L = .ok x L1) : sRt ma τ L = .rt x L1 := by unfold sRt; rw [h1]; rfl
theorem x_t (h1 : eOp f ma mb τ L = .ok (.bl k) L1) : tOp2 f ma mb τ L = .ok k L1 := by unfold tOp2; rw [h1]; rfl
theorem x_fn {p n : Nat} {m : MS} (hl : xs.length = p) (h : m (startP n xs) L = .rt v L1) : fnB p n m xs L = .ok v L1 := by unfold fnB; rw [if_pos hl, h]
theorem x_fn0 {p n : Nat} {m : MS} (hl : xs.length = p) (h : m (startP n xs) L = .nx τ L1) : fnB p n m xs L = .ok .non L1 := by unfold fnB; rw [if_pos hl, h]
theorem x_ix (hp : L[p]? = some (.lst xs)) (ha : atI xs i = some v) : ixF (.obj p) (.int i) L = .ok v L := by
  unfold ixF
  simp only [hp, ha]
theorem x_ixr (ha : atI xs i = some v) : ixF (.rol xs) (.int i) L = .ok v L := by
  unfold ixF
  simp only [ha]
theorem x_set {ml mi : ME} {j : Nat} {v : PV} (h1 : ml τ L = .ok (.obj p) L1) (h2 : mi τ L1 = .ok (.int i) L2) (hp : L2[p]? = some (.lst xs)) (hj : ixN xs.length i = some j) : gSb ml mi v τ L = .ok τ (L2.set p (.lst (xs.set j v))) := by
  unfold gSb
  rw [h1]
  show (mi τ L1).bind0 _ = _
  rw [h2]
  show (match setL (.obj p) (.int i) v L2 with | some L3 => R.ok τ L3 | none => .no) = _
  unfold setL
  simp only [hp]
  rw [hj]
end
end FL
namespace FL
open PySem PySem.Spec PyProof.Rows L2
section
variable {P : Program} {w : World} {K : PySem.W.Frag} {mg mb : Str → Option Value} {CX : CXT} {k : Nat} {fa a : Addr} {fd : FuncData} {x : Str} {sp : Sp} {s₁ : Shared} {vs : List Value} {ns : List Int} {cs : List (Addr × Addr)}
theorem law_callR (KX : K.In s₁.heap) (hns : s₁.heap.Ns mainGlobals mg) (hb : s₁.heap.Ns builtinsNs mb) (hbb : ∀ x : Str, x ≠ "__name__" → mb x = bootBuiltins x) (hlim : s₁.heap.NoLimit) (hg : s₁.gens = #[])
    (hT : ∀ p ∈ cs, s₁.heap.get? p.2 = some tab0) (nT : ∀ p ∈ cs, K.lookup p.2 = none) (hC : ∀ p ∈ cs, PySem.W.CodeHd s₁.heap p.1 p.2)
    (hbm : ∃ (bm : Addr) (ob : Obj), mg "__builtins__" = some (.ref bm) ∧ bm ≠ builtinsNs ∧ s₁.heap.get? bm = some ob ∧ ob.cls = .type "module" ∧ ob.dict = some builtinsNs ∧ ob.data = .plain)
    (ha : s₁.heap.get? a = some { cls := .type "list", data := .seq vs.toArray }) (hi : IntsAre vs ns) (hl : ns.length ≤ sizeLine) (hr : Room k callerA)
    (F : ∀ base : Heap, K.In base → base.Ns mainGlobals mg → (∀ p ∈ cs, LamX.TabB base mg p.1 p.2) → FnG P w K mg base CX k fa fd [x] sp) (hbind : ∀ (s : Shared) (u : Value), BindsTo s fd ⟨[u], []⟩ [(x, u)])
    (hsp : ∀ H : Hp, (∀ p ∈ cs, H p.2 = some (.tbl #[])) → RoL K H a (ns.map V.int) → sp [.ref a] H (fun v _ => v = .bl true) fun _ _ _ => False)
    (hCX : ∀ H e s', CX [] H s₁ (fun _ _ _ => False) e s' → False) : LawGoal P w fa a s₁ := by
  have tabAt : ∀ b, b ∈ cs.map Prod.snd → s₁.heap.get? b = some tab0 := by
    rintro b hb'
    obtain ⟨p, hp, rfl⟩ := List.mem_map.mp hb'
    exact hT p hp
  have main : ∀ H : Hp, (∀ b ∈ cs.map Prod.snd, H b = some (.tbl #[])) → (∀ b, H b ≠ none → b ∈ cs.map Prod.snd ∨ (b = a ∧ K.lookup a = none ∧ ∃ ob ys, H b = some (.frz ob (.lst ys)))) →
      RoL K H a (ns.map V.int) → HOk P w H s₁.heap → LawGoal P w fa a s₁ := by
    intro H hH hO hS hok
    have up : ∀ {b : Addr} {o : Obj}, s₁.heap.get? b = some o → H b = none → (hidT s₁.heap H).get? b = some o := fun e n => hidT_get e n
    -- neither a list nor an empty record: untracked
    have free : ∀ {b : Addr} {o : Obj}, s₁.heap.get? b = some o → (∀ us m, o.data ≠ .seq us m) → o.data ≠ .fields #[] → H b = none := by
      intro b o e n1 n2
      refine Classical.byContradiction fun nz => ?_
      rcases hO b nz with hb' | ⟨rfl, _⟩
      · rw [tabAt b hb'] at e
        cases e
        exact n2 rfl
      · rw [ha] at e
        cases e
        exact n1 _ _ rfl
    have kind : ∀ {d d' : Data}, d = d' → (∀ us m, d' ≠ .seq us m) → d' ≠ .fields #[] → (∀ us m, d ≠ .seq us m) ∧ d ≠ .fields #[] := fun q n1 n2 => by
      rw [q]
      exact ⟨n1, n2⟩
    have nsUp : ∀ {b : Addr} {m : Str → Option Value}, s₁.heap.Ns b m → (hidT s₁.heap H).Ns b m := fun ⟨o, es, ep, e, d, r⟩ =>
      ⟨o, es, ep, up e (let z := kind d (fun _ _ q => nomatch q) (fun q => nomatch q); free e z.1 z.2), d, r⟩
    have KB : K.In (hidT s₁.heap H) := fun b o e => up (KX b o e) (Classical.byContradiction fun nz => by
      rcases hO b nz with hb' | ⟨rfl, hk, _⟩
      · obtain ⟨p, hp, rfl⟩ := List.mem_map.mp hb'
        have z := nT p hp
        rw [z] at e
        cases e
      · rw [hk] at e
        cases e)
    have TB : ∀ p ∈ cs, LamX.TabB (hidT s₁.heap H) mg p.1 p.2 := fun p hp => by
      have at2 := hT p hp
      obtain ⟨og, eg, ng, qg, dg, _⟩ := id hns
      refine { code := ?_, bm := ?_, gP := fun z => ?_ }
      · obtain ⟨o, us, y1, y2, y3, y4, y5, y6, y7, e1, r1, r2, r3, rest⟩ := hC p hp
        refine ⟨o, us, y1, y2, y3, y4, y5, y6, y7, up e1 (free e1 (fun _ _ z => ?_) fun z => ?_), r1, r2, r3, rest⟩
        · rw [r2] at z; cases z
        · rw [r2] at z
          cases z
          simp at r3
      · obtain ⟨bm, ob, b1, b2, b3, b4, b5, b6⟩ := hbm
        refine ⟨bm, ob, b1, b2, fun z => ?_, fun z => ?_, up b3 (let z := kind b6 (fun _ _ q => nomatch q) (fun q => nomatch q); free b3 z.1 z.2), b4, b5, b6⟩
        · rw [z, qg] at b3
          cases b3
          rw [dg] at b6
          cases b6
        · rw [z, at2] at b3
          cases b3
          cases b6
      · rw [z, at2] at qg
        cases qg
        cases dg
    have none0 : ∀ b : Addr, b ∉ frs ([] : List Env) := fun b z => absurd (show b ∈ ([] : List Addr) from z) (by simp)
    have E0 : Env0 P w K mg (hidT s₁.heap H) callerA [] s₁ H :=
      ⟨rfl, ⟨KB, nsUp hns, ⟨mb, nsUp hb, hbb⟩, let ⟨mc, h1, h2⟩ := hlim; ⟨mc, nsUp h1, h2⟩⟩, fun b o e => of_hidT e, Nat.le_of_eq (hidT_size _ _), trivial, fun b z => absurd z (none0 b), hok, .of_eq hg⟩
    have hT' : ∀ p ∈ cs, H p.2 = some (.tbl #[]) := fun p hp => hH _ (List.mem_map.mpr ⟨p, hp, rfl⟩)
    refine codeAny_mono ((F _ KB (nsUp hns) TB).run callerA [] s₁ H ⟨[.ref a], []⟩ [.ref a] [.ref a] _ _ rfl hr E0 (hbind s₁ (.ref a)) (.cons rfl .nil) (hsp H hT' hS)) fun r s' h => ?_
    match r, h with
    | .error e, h => exact (hCX H e s' h).elim
    | .ok .next, h => exact h.elim
    | .ok .brk, h => exact h.elim
    | .ok .cont, h => exact h.elim
    | .ok (.ret u), ⟨v, H', os, bare, un, hok', rz, q⟩ =>
      cases (show v = .bl true from q)
      cases (show u = Value.bool true from rz)
      have kept : ∀ b o, b ∉ cs.map Prod.snd → s₁.heap.get? b = some o → s'.heap.get? b = some o := by
        intro b o nb e
        cases hb' : H b with
        | none => exact un.keep b o e hb' (none0 b) (by simp)
        | some y =>
          rcases hO b (by rw [hb']; simp) with z | ⟨_, _, ob, ys, z⟩
          · exact absurd z nb
          · have o1 := (hok b _ z).1
            have o2 := (hok' b _ (un.frzs b ob _ z)).1
            rw [e] at o1
            cases o1
            exact o2
      have wider : ∀ b ∈ cs.map Prod.snd, ∃ p ∈ cs, p.2 = b ∧ ∃ more : Array Value, s'.heap.get? b = some { cls := .none, data := .fields more } := by
        intro b hb'
        obtain ⟨p, hp, rfl⟩ := List.mem_map.mp hb'
        obtain ⟨more, z⟩ := un.tbls p.2 #[] (hT' p hp)
        exact ⟨p, hp, rfl, _, hok' p.2 _ z⟩
      refine ⟨rfl, ⟨fun b o e => ?_, fun b o e => ?_⟩, os, bare⟩
      · by_cases hb' : b ∈ cs.map Prod.snd
        · obtain ⟨p, hp, rfl, more, hm⟩ := wider b hb'
          have at2 := hT p hp
          rw [at2] at e
          cases e
          exact .inr (.inl ⟨((hC p hp).tab at2).isCodeTable, rfl, #[], more, rfl, by rw [Array.empty_append]; exact hm⟩)
        · exact .inl (kept b o hb' e)
      · by_cases hb' : b ∈ cs.map Prod.snd
        · obtain ⟨p, hp, rfl, more, hm⟩ := wider b hb'
          exact ⟨_, hm⟩
        · exact ⟨o, kept b o hb' e⟩
  have rv := vals_ints hi
  have hlen := hi.length
  have aN : a ∉ cs.map Prod.snd := fun z => by
    have q := tabAt a z
    rw [ha] at q
    have d := congrArg Obj.data (Option.some.inj q)
    exact nomatch (show Data.seq vs.toArray _ = Data.fields #[] from d)
  by_cases hk : K.lookup a = none
  · refine main (fun b => if b = a then some (.frz { cls := .type "list", data := .seq vs.toArray } (.lst (ns.map V.int))) else if b ∈ cs.map Prod.snd then some (.tbl #[]) else none) (fun b hb' => ?_) (fun b nz => ?_) (.inl ⟨_, if_pos rfl⟩) (fun b u z => ?_)
    · have nb : b ≠ a := fun z => aN (z ▸ hb')
      exact (if_neg nb).trans (if_pos hb')
    · by_cases e : b = a
      · exact .inr ⟨e, hk, _, _, if_pos e⟩
      · by_cases hb' : b ∈ cs.map Prod.snd
        · exact .inl hb'
        · exact absurd ((if_neg e).trans (if_neg hb')) nz
    · by_cases e : b = a
      · subst e
        cases (if_pos rfl).symm.trans z
        exact ⟨ha, by rw [List.length_map]; exact hl, vs, _, rv, ha⟩
      · have z' := (if_neg e).symm.trans z
        by_cases hb' : b ∈ cs.map Prod.snd
        · cases (if_pos hb').symm.trans z'
          exact tabAt b hb'
        · cases (if_neg hb').symm.trans z'
  · cases ho : K.lookup a with
    | none => exact absurd ho hk
    | some o =>
      have e := KX a o ho
      rw [ha] at e
      cases e
      refine main (fun b => if b ∈ cs.map Prod.snd then some (.tbl #[]) else none) (fun b hb' => if_pos hb') (fun b nz => ?_) (.inr ⟨_, vs.toArray, _, ho, rfl, rfl, rfl, by rw [List.size_toArray, hlen]; exact hl, by simpa using rv⟩) (fun b u z => ?_)
      · by_cases hb' : b ∈ cs.map Prod.snd
        · exact .inl hb'
        · exact absurd (if_neg hb') nz
      · by_cases hb' : b ∈ cs.map Prod.snd
        · cases (if_pos hb').symm.trans z
          exact tabAt b hb'
        · cases (if_neg hb').symm.trans z
end
/-- a law with tables -/
theorem walk_ofR {l : PySem.W.OpenLaw} {n k : Nat} {q : Program} {loose : List Str} {XP : (Str → Option Value) → Heap → Prop} {YP : World → Heap → Prop} {d : DefRec} {CX : World → CXT} {x : Str}
    (hn : l.most = some n) (hn2 : n ≤ sizeLine) (hdf : d.params.defaults = []) (hr : Room k callerA)
    (F : ∀ (w : World) (mg : Str → Option Value) (fa : Addr) (h : Heap), YP w h → h.Ns mainGlobals mg → mg d.name = some (.ref fa) →
      ∃ (K : PySem.W.Frag) (fd : FuncData) (cs : List (Addr × Addr)) (sp : Sp), K.In h ∧ (∀ (s : Shared) (u : Value), BindsTo s fd ⟨[u], []⟩ [(x, u)]) ∧ (∀ p ∈ cs, h.get? p.2 = some tab0 ∧ K.lookup p.2 = none ∧ PySem.W.CodeHd h p.1 p.2) ∧
        (∀ (H : Hp) (a : Addr) (ns : List Int), ns.length ≤ n → (∀ p ∈ cs, H p.2 = some (.tbl #[])) → RoL K H a (ns.map V.int) → sp [.ref a] H (fun v _ => v = .bl true) fun _ _ _ => False) ∧
        ∀ base : Heap, K.In base → base.Ns mainGlobals mg → (∀ p ∈ cs, LamX.TabB base mg p.1 p.2) → FnG l.prog w K mg base (CX w) k fa fd [x] sp)
    (hCX : ∀ (w : World) (H : Hp) (s : Shared) (e : Value) (s' : Shared), CX w [] H s (fun _ _ _ => False) e s' → False) :
    PySem.W.WalkO q loose XP YP l.row.toRowW d [] (fun f vs => PySem.call f vs) := by
  refine Att.attach_call hn hdf fun w s₀ s₁ mg mb fa o pm cd doc a vs ns G Y ho hd hcd hmg hobj hints hlen hg => ?_
  obtain ⟨K, fd, cs, sp, KX, h1, ht, h2, h3⟩ := F w mg fa _ Y G.T.g hmg
  exact law_callR KX G.T.g G.T.b G.T.builtins G.T.nolimit hg (fun p hp => (ht p hp).1) (fun p hp => (ht p hp).2.1) (fun p hp => (ht p hp).2.2) G.T.bmain hobj hints (Nat.le_trans hlen hn2) hr h3 h1 (fun H hH hS => h2 H a ns hlen hH hS) fun H e s' => hCX w H s₁ e s'
end FL
namespace FL
open PySem PySem.Spec PyProof.Rows L2
variable {K : PySem.W.Frag} {ga : Ga}
theorem VRs.ints {ι : List Addr} {H : Hp} : ∀ ns : List Int, VRs K ga ι H (ns.map .int) (ns.map V.int)
  | [] => rfl
  | i :: ns => ⟨.int i, _, rfl, vri, VRs.ints ns⟩
theorem end_sp {m : Fn} {ns : List Int} {H : Hp} {a : Addr} {Lf : LH} (hT : LamX.Tabs ga.T H) (hS : RoL K H a (ns.map V.int)) (hm : m [.rol (ns.map .int)] [] = .ok (.bl true) Lf) :
    spM 1 K ga m [.ref a] H (fun v _ => v = .bl true) (fun _ _ _ => False) := by
  refine ⟨rfl, [], [], [.rol (ns.map .int)], ⟨rfl, List.nodup_nil, fun n a o h _ => by simp at h, hT⟩, ⟨.ref a, [], rfl, ⟨a, _, rfl, hS, VRs.ints ns⟩, rfl⟩, ?_⟩
  rw [hm]
  intro ι' H' v _ _ r
  exact r.b
theorem fnIn_of {x qual : Str} {params : Arguments} {body : List Stmt} {scope : Scope} {dvs : List V} {kws : List (Str × V)} {f : Addr} {fd : FuncData} (F : FunD K x qual params body scope dvs kws f fd) : PySem.W.fnIn K f = true := by
  obtain ⟨oc, od, dV, kV, doc, pm, an, cdv, ct, osl, e, lk, h⟩ := F.ex
  unfold PySem.W.fnIn
  rw [lk]
theorem kitB_ok {cs : List Str} {tab : List (Tp × Tp × Bool)} (h : kitB K ga cs tab = true) (hc : ∀ C ∈ cs, Cls K (ga C)) : Kit K ga cs tab := by
  obtain ⟨h1, h2⟩ := He.ba h
  obtain ⟨h2, h3⟩ := He.ba h2
  obtain ⟨h4, h5⟩ := He.ba h2
  exact ⟨fun C hC => let z := He.ba (List.all_eq_true.mp h1 C hC); ⟨hc C hC, He.eqO_ok z.1, He.eqO_ok h4, of_decide_eq_true h5, of_decide_eq_true z.2⟩, fun q hq => of_decide_eq_true (List.all_eq_true.mp h3 q hq)⟩
theorem excB_ok {known : List Str} (h : excB K ga known = true) : (∀ c ∈ known, ∀ d ∈ known, PySem.W.exmOne K (.ref (ga c)) (.ref (ga d)) = some (decide (c = d))) ∧ ∀ c ∈ known, PySem.W.typeIn K (.ref (ga c)) = some (.type "type") := by
  obtain ⟨h1, h2⟩ := He.ba h
  exact ⟨fun c hc d hd => of_decide_eq_true (List.all_eq_true.mp (List.all_eq_true.mp h1 c hc) d hd), fun c hc => of_decide_eq_true (List.all_eq_true.mp h2 c hc)⟩
end FL
namespace FL
open PySem PySem.Spec PyProof.Rows L2
theorem eqcB_ok {K : PySem.W.Frag} {ga : Ga} {C : Str} {nf : List Tp} (h : eqcB K ga C nf = true) : PySem.W.findIn K (.ref (ga C)) "__ne__" = some (some (.builtin "object.__ne__")) ∧ PySem.W.mroIn K (ga C) (.type "object") = some true ∧ ∀ t ∈ nf, PySem.W.notFirst K (ga C) (t.v ga) = true := by
  obtain ⟨h1, h2⟩ := He.ba h
  obtain ⟨h2, h3⟩ := He.ba h2
  exact ⟨He.eqO_ok h1, of_decide_eq_true h2, fun t ht => List.all_eq_true.mp h3 t ht⟩
end FL
namespace FL
open PySem PySem.Spec PyProof.Rows L2
/-- the classes with a slot f, and its place in each -/
structure SlT (K : PySem.W.Frag) (ga : Ga) (f : Str) (tab : List (Str × Nat)) : Prop where
  ok : ∀ C i, tab.lookup C = some i → SlX.SCls K (ga C) ∧ ∃ p, SlX.Slot1 K (ga C) f p i
/-- e.f -/
def eSlt (f : Str) (tab : List (Str × Nat)) (o : ME) : ME := fun τ L => (o τ L).bind fun x L1 => match sliOf x L1 with
  | some (_, C, vs) => (match tab.lookup C with
    | some i => (match vs[i]? with
      | some (some v) => .ok v L1
      | _ => .no)
    | none => .no)
  | none => .no
section
variable {X : Cx} {Z : Zs} {W : WX} {f : Str} {tab : List (Str × Nat)} {e o : Expr} {me mo : ME} {pos : Pos} {K : PySem.W.Frag} {ga : Ga}
theorem fe_slt (t : SlT X.K Z.f f tab) (he : FE Z X W e me) (hb : attributeBase e f X.env (eval e X.env) = eval e X.env := by rfl) : FE Z X W (.Attribute e f pos) (eSlt f tab me) :=
  PE.imp (SlX.pe_sl he hb) fun σ H Q h => tM.bind h fun τ x L1 ι1 u H1 w1 s1 r1 g1 => by
    cases hs : sliOf x L1 with
    | none => rw [hs] at g1; exact g1.elim
    | some q =>
      obtain ⟨n, C, vs⟩ := q
      rw [hs] at g1
      dsimp only at g1
      obtain ⟨rfl, hl, a, dx, ws, rfl, hn, ea, ed, rf⟩ := sliOf_at w1 r1 hs
      cases ht : tab.lookup C with
      | none => rw [ht] at g1; exact g1.elim
      | some i =>
        rw [ht] at g1
        dsimp only at g1
        obtain ⟨c, p, k⟩ := t.ok C i ht
        split at g1
        · rename_i v hv
          obtain ⟨y, h1, h2⟩ := rf.2 i v hv
          exact ⟨a, Z.f C, dx, p, ws, i, y, rfl, .inr ⟨ea, ed⟩, c, k, h1, g1.ok w1 h2⟩
        · exact g1.elim
def putSP (i : Nat) (y : PV) (vs : List (Option PV)) : List (Option PV) := (vs ++ List.replicate (i + 1 - vs.length) none).set i (some y)
def sSlt (f : Str) (tab : List (Str × Nat)) (v o : ME) : MS := fun τ L => (v τ L).st τ fun y L1 => (o τ L1).st τ fun x L2 => match sliOf x L2 with
  | some (n, C, vs) => (match tab.lookup C with
    | some i => .nx τ (L2.set n (.sli C (putSP i y vs)))
    | none => .no)
  | none => (match insOf x L2 with
    | some (n, C, []) => (match tab.lookup C with
      | some i => .nx τ (L2.set n (.sli C (putSP i y [])))
      | none => .no)
    | _ => .no)
def ownAt (H : Hp) (dx a : Addr) : Prop := dx ≠ a ∧ (H dx = some (.own a) ∨ H dx = some (.xd []))
/-- as SlX.ps_sl; the instance's own dict is told -/
def sSlI (K : PySem.W.Frag) (ta tv : TE) (f : Str) : TS := fun D σ H => tv σ H fun y H1 => ta σ H1 fun x H2 => ∃ a C dx p vs i, x = .ref a ∧ SlX.Slt H2 a C dx vs ∧ SlX.SCls K C ∧ SlX.Slot1 K C f p i ∧ (ownAt H2 dx a → D.nx σ (SlX.slH H2 a C dx (SlX.putS i y vs)))
theorem slt_own {pins : List (Addr × Obj)} {σ : L2.St} {H : Hp} {s : Shared} {a C dx : Addr} {vs : List (Option V)} (I : Inv X pins σ H s) (h : SlX.Slt H a C dx vs) : ownAt H dx a := by
  refine ⟨(SlX.slt_at I h).1, ?_⟩
  rcases h with ⟨h1, _⟩ | ⟨_, h2⟩
  · obtain ⟨_, _, _, _, _, ho⟩ := ins_get I.hok h1
    exact .inl ho
  · exact .inr h2
theorem ps_slI {value : Expr} {ta tv : TE} {pos' : Pos} (ha : PE X o ta) (hv : PE X value tv) (hs : swapsWith value (some (.Attribute o f pos')) pos.line X.env = pure false := by rfl) : PS X (.Assign [.Attribute o f pos'] value pos) (sSlI X.K ta tv f) :=
  ⟨fun pins s σ H D I h => plainObj_wpAny_Assign_Attribute (thn (hv.run pins s σ H _ I h) fun u s1 ⟨y, H1, I1, ry, q⟩ => thn (ha.run pins s1 σ H1 _ I1 q) fun ov s2 ⟨x, H2, I2, rx, a, C, dx, p, vs, i, ex, hsl, c, t, q2⟩ => by
    subst ex
    obtain rfl : ov = Value.ref a := rx
    exact SlX.setslot_ok I2 hsl c t ry fun s3 I3 => ⟨σ, _, I3, q2 (slt_own I2 hsl)⟩) hs⟩
variable {ι : List Addr} {H : Hp} {L : LH}
theorem ownAt.nin {dx a : Addr} (w : Wd K ga ι L H) (h : ownAt H dx a) : dx ∉ ι := fun z => by
  obtain ⟨u, q, m⟩ := w.some z
  rcases h.2 with e | e <;> (rw [e] at q; cases q; exact m)
/-- the own dict is known to be empty -/
theorem Up.owx {dx a : Addr} (h : ownAt H dx a) : Up K ι H ι (upd H dx (.xd [])) := by
  have k : ∀ b u, H b = some u → (∀ y, u ≠ .own y) → (∀ l, u ≠ .xd l) → upd H dx (.xd []) b = some u := fun b u e n1 n2 => by
    rw [upd_ne]
    · exact e
    · intro z
      rw [z] at e
      rcases h.2 with q | q <;> (rw [q] at e; cases e)
      · exact n1 _ rfl
      · exact n2 _ rfl
  refine ⟨⟨[], by simp⟩, fun b ys h' => ?_, fun b ys h' => ?_, fun b l h' => ?_⟩
  · rcases h' with (h' | ⟨u', h'⟩) | h'
    · exact .inl (.inl (k _ _ h' (fun _ z => nomatch z) (fun _ z => nomatch z)))
    · exact .inl (.inr ⟨u', k _ _ h' (fun _ z => nomatch z) (fun _ z => nomatch z)⟩)
    · exact .inr h'
  · rcases h' with ⟨u', h'⟩ | h'
    · exact .inl ⟨u', k _ _ h' (fun _ z => nomatch z) (fun _ z => nomatch z)⟩
    · exact .inr h'
  · by_cases e : b = dx
    · subst e
      rcases h.2 with q | q
      · rw [q] at h'; cases h'
      · rw [q] at h'; cases h'; exact upd_same
    · rw [upd_ne e]; exact h'
theorem Ext.owx {dx a : Addr} (h : ownAt H dx a) : Ext K ι H ι (upd H dx (.xd [])) := by
  have k : ∀ b u, H b = some u → (∀ y, u ≠ .own y) → upd H dx (.xd []) b = some u := fun b u e n1 => by
    by_cases z : b = dx
    · subst z
      rcases h.2 with q | q <;> (rw [q] at e; cases e)
      · exact (n1 _ rfl).elim
      · exact upd_same
    · rw [upd_ne z]; exact e
  refine ⟨⟨[], by simp, fun _ h => nomatch h⟩, fun b u _ e _ no => k b u e no, (Up.owx (K := K) (ι := ι) h).tp, (Up.owx (K := K) (ι := ι) h).ro, fun b o u e => k _ _ e (fun _ z => nomatch z), fun b y _ e => ?_, (Up.owx (K := K) (ι := ι) h).xd⟩
  by_cases z : b = dx
  · rw [z]; exact .inr upd_same
  · rw [upd_ne z]; exact .inl e
theorem Wd.owx {dx a : Addr} (w : Wd K ga ι L H) (h : ownAt H dx a) : Wd K ga ι L (upd H dx (.xd [])) :=
  w.ext (Ext.owx h) (fun b hb => upd_ne fun z => h.nin w (z ▸ hb)) fun x hx => by
    obtain ⟨ps, h1, h2, h3⟩ := w.tb x hx
    have ne : ∀ b u, H b = Option.some u → (∀ y, u ≠ HO.own y) → (∀ l, u ≠ HO.xd l) → b ≠ dx := fun b u e n1 n2 z => by
      rw [z] at e
      rcases h.2 with q | q <;> (rw [q] at e; cases e)
      · exact n1 _ rfl
      · exact n2 _ rfl
    refine ⟨ps, by rw [upd_ne (ne _ _ h1 (fun _ z => nomatch z) (fun _ z => nomatch z))]; exact h1, h2, fun p cv hc => ?_⟩
    obtain ⟨c, e1, e2⟩ := h3 p cv hc
    exact ⟨c, e1, by rw [upd_ne (ne _ _ e2 (fun _ z => by unfold LamX.CodeO at z; cases z) (fun _ z => by unfold LamX.CodeO at z; cases z))]; exact e2⟩
theorem ORs.put {vs : List (Option PV)} {ws : List (Option V)} {i : Nat} {y : PV} {v : V} (h : ORs K ga ι H vs ws) (r : VR K ga ι H y v) : ORs K ga ι H (putSP i y vs) (SlX.putS i v ws) := by
  refine ⟨by unfold putSP SlX.putS; simp [h.1], fun j x q => ?_⟩
  by_cases hj : j = i
  · subst hj
    rw [SlX.putS_get]
    unfold putSP at q
    rw [List.getElem?_set_self (by simp only [List.length_append, List.length_replicate]; omega)] at q
    cases q
    exact ⟨v, rfl, r⟩
  · unfold putSP at q
    rw [List.getElem?_set_ne (Ne.symm hj)] at q
    have hlt : j < vs.length := by
      by_cases hl : j < vs.length
      · exact hl
      · rw [List.getElem?_append_right (by omega), List.getElem?_replicate] at q
        split at q <;> cases q
    rw [List.getElem?_append_left hlt] at q
    obtain ⟨u, h1, h2⟩ := h.2 j x q
    exact ⟨u, (SlX.putS_ne hj).mpr h1, h2⟩
theorem ORs.up {ι' : List Addr} {H' : Hp} (e : Ext K ι H ι' H') {vs : List (Option PV)} {ws : List (Option V)} (h : ORs K ga ι H vs ws) : ORs K ga ι' H' vs ws := h.upU e.u
/-- a store -/
theorem sl_store {D : Ends} {τ : Sl} {σ : L2.St} {n i : Nat} {C : Str} {vs : List (Option PV)} {ws : List (Option V)} {y : PV} {v : V} {a dx : Addr} {u : HO} (w : Wd K Z.f ι L H) (s : SR K Z ι H τ σ) (hn : ι[n]? = some a) (ea : H a = some u) (mu : Mw u)
    (ho : ownAt H dx a) (ry : VR K Z.f ι H y v) (rf : ORs K Z.f ι H vs ws) (g : gs K Z W (.nx τ (L.set n (.sli C (putSP i y vs)))) ι H D) : D.nx σ (SlX.slH H a (Z.f C) dx (SlX.putS i v ws)) := by
  have e1 := Ext.owx (K := K) (ι := ι) ho
  have w1 := w.owx ho
  have ea1 : upd H dx (.xd []) a = some u := by rw [upd_ne (Ne.symm ho.1)]; exact ea
  have e2 : Ext K ι (upd H dx (.xd [])) ι (SlX.slH H a (Z.f C) dx (SlX.putS i v ws)) := Ext.set (K := K) hn ea1 mu
  have ed : SlX.slH H a (Z.f C) dx (SlX.putS i v ws) dx = some (.xd []) := by unfold SlX.slH; rw [upd_ne ho.1, upd_same]
  exact g ι _ σ (e1.trans e2) (w1.set hn ea1 mu ⟨dx, _, rfl, ed, ((rf.up e1).up e2).put ((ry.up e1).up e2)⟩) ((s.up e1).up e2)
theorem fs_slt {pos' : Pos} {value : Expr} {mv : ME} (t : SlT X.K Z.f f tab) (ha : FE Z X W o mo) (hv : FE Z X W value mv) (hs : swapsWith value (some (.Attribute o f pos')) pos.line X.env = pure false := by rfl) :
    FS Z X W (.Assign [.Attribute o f pos'] value pos) (sSlt f tab mv mo) :=
  PS.imp (ps_slI ha hv hs) fun D σ H h => tS.st h fun τ y L1 ι1 yv H1 w1 s1 ry g1 => ⟨ι1, L1, τ, w1, s1, gs.st (rel := VR X.K Z.f) g1 s1 fun x L2 ι2 u H2 e2 w2 r2 g2 => by
    cases hi : sliOf x L2 with
    | some q =>
      obtain ⟨n, C, vs⟩ := q
      rw [hi] at g2
      dsimp only at g2
      obtain ⟨rfl, hl, a, dx, ws, rfl, hn, ea, ed, rf⟩ := sliOf_at w2 r2 hi
      split at g2
      · rename_i i ht
        obtain ⟨c, p, k⟩ := t.ok C i ht
        exact ⟨a, Z.f C, dx, p, ws, i, rfl, .inr ⟨ea, ed⟩, c, k, fun ho => sl_store w2 (s1.up e2) hn ea (fun _ _ => slO_code) ho (ry.up e2) rf g2⟩
      · exact g2.elim
    | none =>
      rw [hi] at g2
      dsimp only at g2
      split at g2
      · rename_i n C hj
        obtain ⟨rfl, hl, a, dx, l, rfl, hn, ea, rf⟩ := insOf_at w2 r2 hj
        obtain rfl : l = [] := rf
        split at g2
        · rename_i i ht
          obtain ⟨c, p, k⟩ := t.ok C i ht
          exact ⟨a, Z.f C, dx, p, [], i, rfl, .inl ⟨ea, rfl⟩, c, k, fun ho => sl_store w2 (s1.up e2) hn ea True.intro ho (ry.up e2) ⟨rfl, fun _ _ q => by simp at q⟩ g2⟩
        · exact g2.elim
      · exact g2.elim⟩
structure KitS (K : PySem.W.Frag) (ga : Ga) (ss : List Str) : Prop where
  ok : ∀ C ∈ ss, SlX.SCls K (ga C) ∧ SlX.SIsi K (ga C)
/-- a dict of one odd pair -/
def isOdd (x : PV) (L : LH) : Bool := match x with
  | .obj n => (match L[n]? with
    | some (.odd _ _) => true
    | _ => false)
  | _ => false
theorem isOdd_at {ι : List Addr} {L : LH} {H : Hp} {x : PV} {v : V} (w : Wd K ga ι L H) (r : VR K ga ι H x v) (h : isOdd x L = true) : ∃ a ob, v = .ref a ∧ H a = some (.frz ob (.own a)) ∧ ob.ExactDict := by
  unfold isOdd at h
  split at h
  · split at h
    · rename_i hl
      obtain ⟨a, h1, rfl⟩ := r
      obtain ⟨ho, q1, ob, kv, vv, rfl, hob, _⟩ := w.at_ _ a _ h1 hl
      exact ⟨a, ob, rfl, q1, hob.2.1⟩
    · cases h
  · cases h
def rIsiO (K : PySem.W.Frag) : List V → Hp → VK → Prop := fun xs H Q => ∃ (a : Addr) (ob : Obj) (c : V) (u : Value) (b : Bool), xs = [V.ref a, c] ∧ ClsV c u ∧ H a = some (.frz ob (.own a)) ∧ ob.ExactDict ∧ PySem.W.kitOne K (.type "dict") u = some b ∧ Q (.bl b) H
theorem call_isiO : CallR X (.builtin "isinstance") (rIsiO X.K) := by
  intro pins s σ H xs us Q I r h
  obtain ⟨a, ob, c, u, b, rfl, hc, ha, ex, hk, q⟩ := h
  obtain ⟨u1, u2, rfl, r1, r2⟩ := r.two
  obtain rfl : u1 = Value.ref a := r1
  obtain rfl := hc.eq r2
  obtain ⟨h1, _⟩ := (show ObjOk X.prog X.w H s.heap a (.frz ob (.own a)) from I.hok a _ ha)
  exact PySem.W.kia_one PySem.W.kitx_dict I.kIn ⟨ob, h1, ex.1⟩ hk (fun z => nomatch z) fun tk => ⟨.bl b, H, I.tok _, rfl, q⟩
def isiS (ss cs : List Str) (tab : List (Tp × Tp × Bool)) (xs : List PV) (L : LH) : R PV := match xs with
  | [x, c] => (match sliOf x L with
    | some (_, C, _) => if ss.contains C = true then (match clsOf c with
      | some u => (match kitL tab (.c C) u with
        | some b => .ok (.bl b) L
        | none => .no)
      | none => .no) else .no
    | none => if isOdd x L = true then (match clsOf c with
      | some u => (match kitL tab (.b "dict") u with
        | some b => .ok (.bl b) L
        | none => .no)
      | none => .no) else isiF cs tab [x, c] L)
  | _ => .no
def rIsiA (K : PySem.W.Frag) : List V → Hp → VK → Prop := fun xs H Q => rIsi K xs H Q ∨ (∃ u, SlX.rIsiSl K u xs H Q) ∨ rIsiO K xs H Q
theorem call_isiA : CallR X (.builtin "isinstance") (rIsiA X.K) := fun pins s σ H xs us Q I r h => by
  rcases h with h | ⟨u, h⟩ | h
  · exact call_isi pins s σ H xs us Q I r h
  · exact SlX.call_isiSl u pins s σ H xs us Q I r h
  · exact call_isiO pins s σ H xs us Q I r h
theorem isiSL {ss cs : List Str} {tb : List (Tp × Tp × Bool)} (k : Kit K ga cs tb) (k2 : KitS K ga ss) : CaL K ga (isiS ss cs tb) (rIsiA K) := by
  intro W ι L H σ xs us Q w r g
  unfold isiS at g
  split at g
  · rename_i x c
    split at g
    · rename_i n C vs hs
      split at g
      · rename_i hc
        obtain ⟨u, v, rfl, r1, r2⟩ := r.two
        obtain ⟨rfl, hl, a, dx, ws, rfl, hn, ea, ed, rf⟩ := sliOf_at w r1 hs
        obtain ⟨c1, c2⟩ := k2.ok C (by simpa using hc)
        split at g
        · rename_i u hu
          split at g
          · rename_i b hb
            have hv := clsOf_ok r2 hu
            refine .inr (.inl ⟨u.v ga, a, ga C, dx, ws, v, b, rfl, ?_, fun w' hw' => hv.eq hw', .inr ⟨ea, ed⟩, c1, c2, kitL_ok k hb, g.ok w vrb⟩)
            revert hv
            generalize u.v ga = t
            intro hv
            cases hv with
            | ty n => rfl
            | own C => rfl
          · exact g.elim
        · exact g.elim
      · exact g.elim
    · split at g
      · rename_i ho
        obtain ⟨u, v, rfl, r1, r2⟩ := r.two
        obtain ⟨a, ob, rfl, q1, q2⟩ := isOdd_at w r1 ho
        split at g
        · rename_i u hu
          split at g
          · rename_i b hb
            exact .inr (.inr ⟨a, ob, v, u.v ga, b, rfl, clsOf_ok r2 hu, q1, q2, kitL_ok k hb, g.ok w vrb⟩)
          · exact g.elim
        · exact g.elim
      · exact .inl (isiL k W ι L H σ _ us Q w r g)
  · exact g.elim
end
end FL
namespace FL
open PySem PySem.Spec PyProof.Rows L2
variable {K : PySem.W.Frag} {C : Addr} {f x y : Str} {i : Nat} {ga : Ga}
theorem sclB_ok (h : sclB K C = true) : SlX.SCls K C := by
  obtain ⟨h1, h⟩ := He.ba h
  obtain ⟨h2, h⟩ := He.ba h
  obtain ⟨h3, h4⟩ := He.ba h
  exact ⟨h1, h2, h3, He.eqO_ok h4⟩
theorem sisB_ok (h : sisB K C = true) : SlX.SIsi K C := by
  obtain ⟨h1, h⟩ := He.ba h
  obtain ⟨h2, h⟩ := He.ba h
  obtain ⟨h3, h4⟩ := He.ba h
  exact ⟨He.eqO_ok h1, He.eqO_ok h2, of_decide_eq_true h3, of_decide_eq_true h4⟩
theorem slotB_ok (h : slotB K C f i = true) : ∃ p, SlX.Slot1 K C f p i := by
  unfold slotB at h
  split at h
  · rename_i p hp
    obtain ⟨h1, h⟩ := He.ba h
    obtain ⟨h2, h⟩ := He.ba h
    obtain ⟨h3, h⟩ := He.ba h
    obtain ⟨h4, h5⟩ := He.ba h
    exact ⟨p, hp, He.eqO_ok h1, of_decide_eq_true h2, of_decide_eq_true h3, of_decide_eq_true h4, of_decide_eq_true h5⟩
  · cases h
theorem slt1 {C : Str} (c : SlX.SCls K (ga C)) (h : slotB K (ga C) f i = true) : SlT K ga f [(C, i)] := ⟨fun D j hl => by
  rw [List.lookup] at hl
  split at hl
  · rename_i e
    cases hl
    have e' : D = C := by simpa using e
    subst e'
    exact ⟨c, slotB_ok h⟩
  · cases hl⟩
theorem kits1 {C : Str} (c : SlX.SCls K (ga C)) (h : sisB K (ga C) = true) : KitS K ga [C] := ⟨fun D hD => by
  obtain rfl : D = C := by simpa using hD
  exact ⟨c, sisB_ok h⟩⟩
theorem ali_ok {h : Heap} {mg : Str → Option Value} (X : K.In h) (G : h.Ns mainGlobals mg) (c : aliB K x y = true) : mg x = some (.ref (He.ga K y)) := PySem.W.mg_of X G (He.eqO_ok c)
end FL
namespace FL
open PySem PySem.Spec PyProof.Rows L2
mutual
/-- the least n such that only objects below n are told -/
def mxB : PV → Nat
  | .tup xs => mxBs xs
  | .rol xs => mxBs xs
  | .obj k => k + 1
  | _ => 0
def mxBs : List PV → Nat
  | [] => 0
  | x :: xs => Nat.max (mxB x) (mxBs xs)
end
mutual
def eqB : PV → PV → Bool
  | .non, .non => true
  | .bl a, .bl b => a == b
  | .int a, .int b => a == b
  | .str a, .str b => a == b
  | .tup xs, .tup ys => eqBs xs ys
  | .obj n, .obj m => n == m
  | .rol xs, .rol ys => eqBs xs ys
  | .glo a, .glo b => a == b
  | .ty a, .ty b => a == b
  | _, _ => false
def eqBs : List PV → List PV → Bool
  | [], [] => true
  | x :: xs, y :: ys => eqB x y && eqBs xs ys
  | _, _ => false
end
mutual
theorem eqB_ok : ∀ (x y : PV), eqB x y = true → x = y
  | .non, y, h => by cases y <;> simp_all [eqB]
  | .bl a, y, h => by cases y <;> simp_all [eqB]
  | .int a, y, h => by cases y <;> simp_all [eqB]
  | .str a, y, h => by cases y <;> simp_all [eqB]
  | .obj a, y, h => by cases y <;> simp_all [eqB]
  | .glo a, y, h => by cases y <;> simp_all [eqB]
  | .ty a, y, h => by cases y <;> simp_all [eqB]
  | .tup xs, .tup ys, h => by rw [eqBs_ok xs ys (by simpa [eqB] using h)]
  | .rol xs, .rol ys, h => by rw [eqBs_ok xs ys (by simpa [eqB] using h)]
  | .tup xs, .non, h | .tup xs, .bl _, h | .tup xs, .int _, h | .tup xs, .str _, h | .tup xs, .obj _, h | .tup xs, .rol _, h | .tup xs, .glo _, h | .tup xs, .ty _, h => by simp [eqB] at h
  | .rol xs, .non, h | .rol xs, .bl _, h | .rol xs, .int _, h | .rol xs, .str _, h | .rol xs, .obj _, h | .rol xs, .tup _, h | .rol xs, .glo _, h | .rol xs, .ty _, h => by simp [eqB] at h
theorem eqBs_ok : ∀ (xs ys : List PV), eqBs xs ys = true → xs = ys
  | [], [], _ => rfl
  | x :: xs, y :: ys, h => by
    simp only [eqBs, Bool.and_eq_true] at h
    rw [eqB_ok x y h.1, eqBs_ok xs ys h.2]
  | [], _ :: _, h => by simp [eqBs] at h
  | _ :: _, [], h => by simp [eqBs] at h
end
mutual
theorem eqB_rfl : ∀ (x : PV), eqB x x = true
  | .non => rfl
  | .bl a => by simp [eqB]
  | .int a => by simp [eqB]
  | .str a => by simp [eqB]
  | .obj a => by simp [eqB]
  | .glo a => by simp [eqB]
  | .ty a => by simp [eqB]
  | .tup xs => by simp [eqB, eqBs_rfl xs]
  | .rol xs => by simp [eqB, eqBs_rfl xs]
theorem eqBs_rfl : ∀ (xs : List PV), eqBs xs xs = true
  | [] => rfl
  | x :: xs => by simp [eqBs, eqB_rfl x, eqBs_rfl xs]
end
def eqKs {α : Type} [DecidableEq α] (a b : List (α × PV)) : Bool := decide (a.map (·.1) = b.map (·.1)) && eqBs (a.map (·.2)) (b.map (·.2))
theorem eqKs_ok {α : Type} [DecidableEq α] : ∀ {a b : List (α × PV)}, eqKs a b = true → a = b := by
  intro a b h
  unfold eqKs at h
  rw [Bool.and_eq_true] at h
  have h1 := of_decide_eq_true h.1
  have h2 := eqBs_ok _ _ h.2
  clear h
  induction a generalizing b with
  | nil => cases b with | nil => rfl | cons => simp at h1
  | cons x a ih =>
    cases b with
    | nil => simp at h1
    | cons y b =>
      simp only [List.map_cons, List.cons.injEq] at h1 h2
      rw [ih h1.2 h2.2, Prod.ext h1.1 h2.1]
theorem eqKs_rfl {α : Type} [DecidableEq α] (a : List (α × PV)) : eqKs a a = true := by simp [eqKs, eqBs_rfl]
def eqOs : List (Option PV) → List (Option PV) → Bool
  | [], [] => true
  | none :: a, none :: b => eqOs a b
  | some x :: a, some y :: b => eqB x y && eqOs a b
  | _, _ => false
theorem eqOs_ok : ∀ {a b : List (Option PV)}, eqOs a b = true → a = b
  | [], [], _ => rfl
  | none :: a, none :: b, h => by rw [eqOs_ok (a := a) (b := b) h]
  | some x :: a, some y :: b, h => by
    simp only [eqOs, Bool.and_eq_true] at h
    rw [eqB_ok _ _ h.1, eqOs_ok h.2]
  | [], _ :: _, h => by simp [eqOs] at h
  | none :: _, [], h => by simp [eqOs] at h
  | none :: _, some _ :: _, h => by simp [eqOs] at h
  | some _ :: _, [], h => by simp [eqOs] at h
  | some _ :: _, none :: _, h => by simp [eqOs] at h
theorem eqOs_rfl : ∀ a : List (Option PV), eqOs a a = true
  | [] => rfl
  | none :: a => eqOs_rfl a
  | some x :: a => by simp only [eqOs, eqB_rfl, eqOs_rfl a, Bool.and_self]
def eqO : LO → LO → Bool
  | .lst a, .lst b => eqBs a b
  | .dct a, .dct b => eqKs a b
  | .fdct a, .fdct b => eqKs a b
  | .ins C a, .ins D b => decide (C = D) && eqKs a b
  | .sli C a, .sli D b => decide (C = D) && eqOs a b
  | .odd a b, .odd c d => eqBs [a, b] [c, d]
  | _, _ => false
theorem eqO_ok {a b : LO} (h : eqO a b = true) : a = b := by
  cases a <;> cases b <;> simp only [eqO, Bool.and_eq_true, decide_eq_true_eq] at h <;> first | cases h; done | skip
  · rw [eqBs_ok _ _ h]
  · rw [eqKs_ok h]
  · rw [eqKs_ok h]
  · rw [h.1, eqKs_ok h.2]
  · rw [h.1, eqOs_ok h.2]
  · have e := eqBs_ok _ _ h
    injection e with e1 e2
    injection e2 with e2 _
    rw [e1, e2]
theorem eqO_rfl (a : LO) : eqO a a = true := by cases a <;> simp [eqO, eqBs_rfl, eqKs_rfl, eqOs_rfl]
/-- what stands in M tells only objects below k, or stood in L -/
def okI (k : Nat) : LH → LH → Bool
  | _, [] => true
  | [], o :: M => refO k o && okI k [] M
  | l :: L, o :: M => (refO k o || eqO l o) && okI k L M
theorem okI_iff {k : Nat} : ∀ {L M : LH}, okI k L M = true ↔ ∀ (i : Nat) (o : LO), M[i]? = some o → refO k o = true ∨ L[i]? = some o
  | L, [] => by simp [okI]
  | [], o :: M => by
    simp only [okI, Bool.and_eq_true]
    rw [okI_iff (L := []) (M := M)]
    constructor
    · rintro ⟨h1, h2⟩ i u hi
      cases i with
      | zero => simp at hi; subst hi; exact .inl h1
      | succ i => simpa using h2 i u (by simpa using hi)
    · intro h
      refine ⟨by simpa using h 0 o rfl, fun i u hi => by simpa using h (i + 1) u (by simpa using hi)⟩
  | l :: L, o :: M => by
    simp only [okI, Bool.and_eq_true, Bool.or_eq_true]
    rw [okI_iff (L := L) (M := M)]
    constructor
    · rintro ⟨h1, h2⟩ i u hi
      cases i with
      | zero =>
        simp at hi; subst hi
        exact h1.imp id fun z => by rw [eqO_ok z]; rfl
      | succ i => simpa using h2 i u (by simpa using hi)
    · intro h
      refine ⟨(h 0 o rfl).imp id fun z => by simp at z; subst z; exact eqO_rfl _, fun i u hi => by simpa using h (i + 1) u (by simpa using hi)⟩
def gcK2 (n : Nat) (L : LH) (xs : List PV) (L' : LH) : LH :=
  if Nat.ble (Nat.max n (mxBs xs)) L'.length = true ∧ refBs (Nat.max n (mxBs xs)) xs = true ∧ okI (Nat.max n (mxBs xs)) L (L'.take (Nat.max n (mxBs xs))) = true then L'.take (Nat.max n (mxBs xs)) else L'
/-- the end of a def -/
def gcF (m : Fn) : Fn := fun xs L => match m xs L with
  | .ok x L' => .ok x (gcK2 L.length L [x] L')
  | .ex c fs L' => .ex c fs (gcK2 L.length L (fs.map (·.2)) L')
  | .no => .no
section
variable {K : PySem.W.Frag} {ga : Ga} {ι ι' δ : List Addr} {H H' : Hp} {L L' : LH} {n k : Nat}
mutual
theorem VR.below : ∀ {x : PV} {v : V}, VR K ga ι H x v → refB ι.length x = true
  | .non, _, _ => rfl
  | .bl _, _, _ => rfl
  | .int _, _, _ => rfl
  | .str _, _, _ => rfl
  | .tup xs, _, h => by obtain ⟨a, ys, _, _, e⟩ := h; exact VRs.below e
  | .rol xs, _, h => by obtain ⟨a, ys, _, _, e⟩ := h; exact VRs.below e
  | .obj n, _, h => by
    obtain ⟨a, e1, _⟩ := h
    exact Nat.blt_eq.mpr (List.getElem?_eq_some_iff.mp e1).1
  | .glo _, _, _ => rfl
  | .ty _, _, _ => rfl
theorem VRs.below : ∀ {xs : List PV} {vs : List V}, VRs K ga ι H xs vs → refBs ι.length xs = true
  | [], _, _ => rfl
  | x :: xs, _, h => by
    obtain ⟨y, r, _, e2, e3⟩ := h
    simp only [refBs, Bool.and_eq_true]
    exact ⟨VR.below e2, VRs.below e3⟩
end
theorem DRs.below : ∀ {xs : List (Key × PV)} {l : List (Key × V)}, DRs K ga ι H xs l → refBs ι.length (xs.map (·.2)) = true
  | [], _, _ => rfl
  | x :: xs, _, h => by
    obtain ⟨v, r, _, e2, e3⟩ := h
    simp only [List.map_cons, refBs, Bool.and_eq_true]
    exact ⟨VR.below e2, DRs.below e3⟩
theorem FRs.below : ∀ {xs : List (Str × PV)} {l : List (Str × V)}, FRs K ga ι H xs l → refBs ι.length (xs.map (·.2)) = true
  | [], _, _ => rfl
  | x :: xs, _, h => by
    obtain ⟨v, r, _, e2, e3⟩ := h
    simp only [List.map_cons, refBs, Bool.and_eq_true]
    exact ⟨VR.below e2, FRs.below e3⟩
theorem OA.below {a : Addr} {o : LO} {ho : HO} (h : OA K ga ι H a o ho) : refO ι.length o = true := by
  cases o with
  | lst xs => obtain ⟨ys, _, h⟩ := h; exact VRs.below h
  | dct xs => obtain ⟨ys, _, h⟩ := h; exact DRs.below h
  | fdct xs => obtain ⟨od, ys, _, h⟩ := h; exact DRs.below h
  | ins C xs => obtain ⟨dx, ys, _, h⟩ := h; exact FRs.below h
  | sli C xs =>
    obtain ⟨dx, ys, _, _, h⟩ := h
    refine refBs_all fun x hx => ?_
    obtain ⟨o, ho, e⟩ := List.mem_filterMap.mp hx
    obtain ⟨i, hi⟩ := List.mem_iff_getElem?.mp ho
    obtain ⟨v, _, q⟩ := h.2 i x (by rw [hi]; exact congrArg some e)
    exact VR.below q
  | odd k v => obtain ⟨ob, kv, vv, _, _, h⟩ := h; exact VRs.below h
mutual
theorem refB.mono (h : n ≤ k) : ∀ {x : PV}, refB n x = true → refB k x = true
  | .non, _ => rfl
  | .bl _, _ => rfl
  | .int _, _ => rfl
  | .str _, _ => rfl
  | .glo _, _ => rfl
  | .ty _, _ => rfl
  | .obj m, r => Nat.blt_eq.mpr (Nat.lt_of_lt_of_le (Nat.blt_eq.mp r) h)
  | .tup xs, r => refBs.mono h (xs := xs) r
  | .rol xs, r => refBs.mono h (xs := xs) r
theorem refBs.mono (h : n ≤ k) : ∀ {xs : List PV}, refBs n xs = true → refBs k xs = true
  | [], _ => rfl
  | x :: xs, r => by
    simp only [refBs, Bool.and_eq_true] at r ⊢
    exact ⟨refB.mono h r.1, refBs.mono h r.2⟩
end
theorem refO.mono (h : n ≤ k) {o : LO} (r : refO n o = true) : refO k o = true := by
  cases o <;> exact refBs.mono h r
theorem Wd.below (w : Wd K ga ι L H) {i : Nat} {o : LO} (h : L[i]? = Option.some o) : refO L.length o = true := by
  have hi := (List.getElem?_eq_some_iff.mp h).1
  have hi' : i < ι.length := by rw [w.len]; exact hi
  obtain ⟨ho, _, q⟩ := w.at_ i ι[i] o (List.getElem?_eq_getElem hi') h
  rw [← w.len]
  exact q.below
/-- the first k objects -/
theorem Wd.first (w' : Wd K ga ι' L' H') (hk : k ≤ L'.length) (r : ∀ (i : Nat) (o : LO), (L'.take k)[i]? = Option.some o → refO k o = true) : Wd K ga (ι'.take k) (L'.take k) H' := by
  have e : ι' = ι'.take k ++ ι'.drop k := (List.take_append_drop k ι').symm
  have hl : (ι'.take k).length = k := by rw [List.length_take, w'.len]; exact Nat.min_eq_left hk
  rw [e] at w'
  refine w'.cut hl ?_ hk
  unfold refH
  rw [List.all_eq_true]
  intro o ho
  obtain ⟨i, hi⟩ := List.mem_iff_getElem?.mp ho
  exact r i o hi
theorem VRs.first {xs : List PV} {vs : List V} (w' : Wd K ga ι' L' H') (h : VRs K ga ι' H' xs vs) (hk : k ≤ L'.length) (r : refBs k xs = true) : VRs K ga (ι'.take k) H' xs vs := by
  have e : ι' = ι'.take k ++ ι'.drop k := (List.take_append_drop k ι').symm
  have hl : (ι'.take k).length = k := by rw [List.length_take, w'.len]; exact Nat.min_eq_left hk
  rw [e] at h
  exact h.cutR (by rw [hl]; exact r)
theorem Ext.first (e : Ext K ι H ι' H') (h : ι.length ≤ k) : Ext K ι H (ι'.take k) H' := by
  obtain ⟨⟨δ, rfl, hd⟩, st, tp, ro, fz, ow, xd⟩ := e
  refine ⟨⟨δ.take (k - ι.length), by rw [List.take_append, List.take_of_length_le h], fun a ha => hd a (List.mem_of_mem_take ha)⟩, st, tp, ro, fz, ow, xd⟩
theorem gcK2_or (w : Wd K ga ι L H) (xs : List PV) (L' : LH) : gcK2 L.length L xs L' = L' ∨ ∃ k, L.length ≤ k ∧ k ≤ L'.length ∧ refBs k xs = true ∧ (∀ (i : Nat) (o : LO), (L'.take k)[i]? = some o → refO k o = true) ∧ gcK2 L.length L xs L' = L'.take k := by
  unfold gcK2
  split
  · rename_i h
    obtain ⟨h1, h2, h3⟩ := h
    refine .inr ⟨_, Nat.le_max_left _ _, Nat.ble_eq.mp h1, h2, fun i o hi => ?_, rfl⟩
    rcases okI_iff.mp h3 i o hi with z | z
    · exact z
    · exact refO.mono (Nat.le_max_left _ _) (w.below z)
  · exact .inl rfl
theorem FRs_vals : ∀ {fs : List (Str × PV)} {l : List (Str × V)}, FRs K ga ι H fs l → ∃ vs, VRs K ga ι H (fs.map (·.2)) vs ∧ (∀ ι2 H2, VRs K ga ι2 H2 (fs.map (·.2)) vs → FRs K ga ι2 H2 fs l)
  | [], _, h => ⟨[], rfl, fun _ _ _ => h⟩
  | p :: ps, _, h => by
    obtain ⟨v, r, rfl, h1, h2⟩ := h
    obtain ⟨vs, q1, q2⟩ := FRs_vals h2
    refine ⟨v :: vs, ⟨v, vs, rfl, h1, q1⟩, fun ι2 H2 z => ?_⟩
    obtain ⟨v', vs', e, z1, z2⟩ := z
    injection e with e1 e2
    subst e1 e2
    exact ⟨v, r, rfl, z1, q2 ι2 H2 z2⟩
theorem gd_gcF {W : WX} {m : Fn} {xs : List PV} {σ : L2.St} {P : V → Hp → Prop} (w : Wd K ga ι L H) (g : gd K ga W (VR K ga) (gcF m xs L) ι H σ fun _ _ _ v H' => P v H') : gd K ga W (VR K ga) (m xs L) ι H σ fun _ _ _ v H' => P v H' := by
  unfold gcF at g
  cases hm : m xs L with
  | no => rw [hm] at g; exact g
  | ok x L' =>
    rw [hm] at g
    have g : gd K ga W (VR K ga) (.ok x (gcK2 L.length L [x] L')) ι H σ fun _ _ _ v H' => P v H' := g
    rcases gcK2_or w [x] L' with e | ⟨k, h1, h2, h3, h4, e⟩
    · rw [e] at g; exact g
    · rw [e] at g
      intro ι' H' v ex w' r
      have z := VRs.first w' (xs := [x]) (vs := [v]) ⟨v, [], rfl, r, rfl⟩ h2 h3
      obtain ⟨v', _, e1, z1, _⟩ := z
      injection e1 with e1 _
      subst e1
      exact g _ H' v (ex.first (by rw [w.len]; exact h1)) (w'.first h2 h4) z1
  | ex c fs L' =>
    rw [hm] at g
    have g : gd K ga W (VR K ga) (.ex c fs (gcK2 L.length L (fs.map (·.2)) L')) ι H σ fun _ _ _ v H' => P v H' := g
    rcases gcK2_or w (fs.map (·.2)) L' with e | ⟨k, h1, h2, h3, h4, e⟩
    · rw [e] at g; exact g
    · rw [e] at g
      intro ι' H' d l ex w' hd r
      obtain ⟨vs, q1, q2⟩ := FRs_vals r
      exact g _ H' d l (ex.first (by rw [w.len]; exact h1)) (w'.first h2 h4) hd (q2 _ _ (VRs.first w' q1 h2 h3))
end
section
variable {P : Program} {w : World} {K : PySem.W.Frag} {mg : Str → Option Value} {base : Heap} {ga : Ga} {f : Addr} {fd : FuncData} {ps : List Str} {k : Nat} {m : Fn}
theorem fn_gc (F : FnM P w K mg base ga k f fd ps m) : FnM P w K mg base ga k f fd ps (gcF m) := ⟨fun vs H Q E h => h.1, fun A o s H a us vs Q E hg hr e0 hb rv h => by
  obtain ⟨hl, ι, L, xs, wd, r, g⟩ := h
  exact F.run A o s H a us vs Q E hg hr e0 hb rv ⟨hl, ι, L, xs, wd, r, gd_gcF wd g⟩⟩
theorem gcF_len {n : Nat} (h : ∀ xs L, xs.length ≠ n → m xs L = .no) : ∀ xs L, xs.length ≠ n → gcF m xs L = .no := fun xs L hx => by unfold gcF; rw [h xs L hx]
end
end FL
namespace L2
open PySem PySem.Spec PyProof.Rows
end L2
namespace L2
open PySem PySem.Spec PyProof.Rows
theorem valV_mem {κ : Type} [DecidableEq κ] : ∀ {kvs : List (κ × V)}, (kvs.map (·.1)).Nodup → ∀ p ∈ kvs, valV kvs p.1 = some p.2
  | [], _, p, h => by cases h
  | q :: kvs, hn, p, h => by
    rw [List.map_cons, List.nodup_cons] at hn
    rcases List.mem_cons.mp h with rfl | h
    · simp [valV]
    · have hne : q.1 ≠ p.1 := fun e => hn.1 (e ▸ List.mem_map_of_mem h)
      have := valV_mem hn.2 p h
      unfold valV at this ⊢
      rw [List.find?_cons_of_neg (by simpa using hne)]
      exact this
theorem zip_keys {κ : Type} : ∀ {ks : List κ} {vs : List V}, ks.length = vs.length → (ks.zip vs).map (·.1) = ks
  | [], _, _ => by simp
  | k :: ks, v :: vs, h => by simp [zip_keys (ks := ks) (vs := vs) (by simpa using h)]
theorem hitsD {X : Cx} {pins : List (Addr × Obj)} {σ : St} {H : Hp} {s : Shared} {A : Around} (I : Inv X pins σ H s) (hu : A.units + 64 < cLine) {ls : List (Key × V)} {vb : List (Key × Value)} (rb : KV ls vb) :
    ∀ {ks : List Key} {vs ws : List V} {ds es : List PyData} {va : List (Key × Value)}, ks.length = vs.length → ks.length = ws.length → DpAll X.K H vs ds → DpAll X.K H ws es → (∀ d ∈ ds, SeqAt.shaped d = true) → (∀ d ∈ es, SeqAt.shaped d = true) →
      (∀ p ∈ ks.zip ws, valV ls p.1 = some p.2) → KV (ks.zip vs) va → PySem.W.KeqHitsP X.prog X.w A s vb va (PyData.eqvAll ds es)
  | [], [], [], _, _, _, _, _, .nil, .nil, _, _, _, r => by cases r; exact .nil
  | k :: ks, v :: vs, w :: ws, _, _, _, hl, hl2, .cons (d := d) (ds := ds) hd hds, .cons (d := e) (ds := es) he hes, sd, se, hv, r => by
    unfold KV at r
    rw [List.zip_cons_cons] at r
    cases r with
    | @cons _ q _ qs h t =>
      obtain ⟨key, u⟩ := q
      obtain ⟨h1, h2⟩ := h
      cases (show k = key from h1)
      have hv0 := hv (k, w) (by simp)
      have rr : RelO (some w) (valueAt vb k) := by rw [← hv0]; exact rb.val k
      obtain ⟨y, hy, ry⟩ := rr.some_of
      obtain ⟨as, r1⟩ := Dp.reads I d v u hd h2
      obtain ⟨bs, r2⟩ := Dp.reads I e w y he ry
      have s1 := sd d (by simp)
      have s2 := se e (by simp)
      exact .hit hy (SeqAt.eqAt_reads d e A s u y as bs r1 r2 (SeqAt.canLay_of_shaped s1) (SeqAt.canLay_of_shaped s2) (SeqAt.room_of_shaped s1 hu)).eqP (hitsD I hu rb (by simpa using hl) (by simpa using hl2) hds hes (fun d hd => sd d (by simp [hd])) (fun d hd => se d (by simp [hd])) (fun p hp => hv p (by simp [hp])) t)
def rEqDk (K : PySem.W.Frag) : R2 := fun x y H Q => ∃ (a b : Addr) (ks : List Key) (vs ws : List V) (ds es : List PyData), x = .ref a ∧ y = .ref b ∧ H a = some (.dK (ks.zip vs)) ∧ H b = some (.dK (ks.zip ws)) ∧ ks.Nodup ∧ ks.length = vs.length ∧ ks.length = ws.length ∧
  DpAll K H vs ds ∧ DpAll K H ws es ∧ (∀ d ∈ ds, SeqAt.shaped d = true) ∧ (∀ d ∈ es, SeqAt.shaped d = true) ∧ Q (.bl (PyData.eqvAll ds es)) H
theorem op_eqDk {X : Cx} (hu : X.A.units + 65 < cLine) : OpR X (compareOp .Eq) (rEqDk X.K) := by
  intro pins s σ H x y v u Q I rx ry h
  obtain ⟨a, b, ks, vs, ws, ds, es, rfl, rfl, ha, hb, hn, l1, l2, hd, he, sd, se, q⟩ := h
  cases rx
  cases ry
  obtain ⟨_, ya, va, ra, da⟩ := (show ObjOk X.prog X.w H s.heap a (.dK (ks.zip vs)) from I.hok a _ ha)
  obtain ⟨_, yb, vb, rb, db⟩ := (show ObjOk X.prog X.w H s.heap b (.dK (ks.zip ws)) from I.hok b _ hb)
  refine PySem.W.rcP_dicts (knd := mixKind X.prog X.w) (r := PyData.eqvAll ds es) ya yb da db (by omega) (fun _ => hitsD I (A := X.A.in1) (by show X.A.units + 1 + 64 < cLine; omega) rb l1 l2 hd he sd se (valV_mem (by rw [zip_keys l2]; exact hn)) ra) _ _ ?_
  have e : va.length = vb.length := by rw [← ra.length, ← rb.length, List.length_zip, List.length_zip, ← l1, ← l2]
  rw [show (va.length == vb.length && PyData.eqvAll ds es) = PyData.eqvAll ds es from by rw [e]; simp]
  exact ⟨.bl _, H, I, rfl, q⟩
end L2
namespace L2
open PySem PySem.Spec PyProof.Rows
inductive TyI (K : PySem.W.Frag) (H : Hp) : V → Value → Prop
  | ins {b C dx : Addr} {fs : List (Str × V)} : H b = some (.ins C dx fs) → TyI K H (.ref b) (.ref C)
  | non : TyI K H .non (.type "NoneType")
  | bl (b : Bool) : TyI K H (.bl b) (.type "bool")
  | int (i : Int) : TyI K H (.int i) (.type "int")
  | str (x : Str) : TyI K H (.str x) (.type "str")
  | lst {b : Addr} {xs : List V} : SqL K H b xs → TyI K H (.ref b) (.type "list")
  | tup {b : Addr} {xs : List V} : SqT K H b xs → TyI K H (.ref b) (.type "tuple")
  | sli {b C dx : Addr} {ws : List (Option V)} : SlX.Slt H b C dx ws → TyI K H (.ref b) (.ref C)
section
variable {X : Cx} {pins : List (Addr × Obj)} {σ : St} {H : Hp} {s : Shared}
theorem TyI.looks {y : V} {u tb : Value} (I : Inv X pins σ H s) (t : TyI X.K H y tb) (r : RelV y u) (M : Model) : PySem.W.Looks M s.heap (typeOf u) tb := by
  cases t with
  | ins h =>
    cases r
    obtain ⟨mA, J, _⟩ := ins_get I.hok h
    obtain ⟨od, J, _⟩ := J.look
    exact J.type
  | sli h =>
    cases r
    obtain ⟨sl, od, _, J, _⟩ := SlX.slt_inst I h
    exact J.type
  | non => cases r; exact .now
  | bl b => cases r; exact .now
  | int i => obtain ⟨t, rfl⟩ := r; exact .now
  | str x => obtain ⟨t, rfl⟩ := r; exact .now
  | lst h =>
    cases r
    obtain ⟨its, rv, ⟨o, n, ho, hc, _, hd⟩, _⟩ := I.list h
    exact hc ▸ (PySem.W.Looks.ld ho).andThen .now
  | tup h =>
    cases r
    obtain ⟨its, rv, ⟨o, ho, hc, n, hd⟩, _⟩ := I.tuple h
    exact hc ▸ (PySem.W.Looks.ld ho).andThen .now
end
end L2
namespace FL
open PySem PySem.Spec PyProof.Rows L2
section
variable {Z : Zs} {X : Cx} {W : WX} {e o a b c : Expr} {es : List Expr} {me mo : ME} {ma : MA} {pos p : Pos} {K : PySem.W.Frag} {ga : Ga}
/-- a, b = x, y -/
def sPar (is : List Nat) (ma : MA) : MS := fun τ L => (ma τ L).st τ fun xs L1 => if xs.length = is.length then .nx (setAll is xs τ) L1 else .no
theorem fs_par {i j : Nat} {x y : Str} {px py pt : Pos} {kt k2 pt2} (hc : X.calm = true) (hN : X.N.Nodup) (hi : X.N[i]? = some x) (hj : X.N[j]? = some y) (hij : i ≠ j)
    (hx : X.env.scope.names.lookup x = some .local) (hy : X.env.scope.names.lookup y = some .local) (ha : FA Z X W [a, b] ma)
    (hw : swappedStores [.Tuple [.Name x px, .Name y py] kt pt] (.Tuple [a, b] k2 pt2) X.env = pure (some [x, y]))
    (hs : swapsWithSole [.Tuple [.Name x px, .Name y py] kt pt] (.Tuple [a, b] k2 pt2) pos.line X.env = pure false := by rfl) (hz : Z.ok i = true := by rfl) (hz2 : Z.ok j = true := by rfl) :
    FS Z X W (.Assign [.Tuple [.Name x px, .Name y py] kt pt] (.Tuple [a, b] k2 pt2) pos) (sPar [i, j] ma) :=
  PS.imp (ps_par hc hN hi hj hij hx hy ha hw hs) fun D σ H h => tS.st h fun τ xs L1 ι1 us H1 w1 s1 r1 g1 => by
    split at g1
    · rename_i hl
      obtain ⟨u, v, rfl⟩ : ∃ u v, xs = [u, v] := by
        rcases xs with _ | ⟨u, _ | ⟨v, _ | ⟨_, _⟩⟩⟩ <;> first | exact ⟨_, _, rfl⟩ | (simp at hl)
      obtain ⟨x1, x2, rfl, q1, q2⟩ := r1.two
      exact ⟨x1, x2, rfl, g1.nx w1 ((s1.set i hz q1).set j hz2 q2)⟩
    · exact g1.elim
end
end FL
namespace FL
open PySem PySem.Spec PyProof.Rows L2
section
variable {Z : Zs} {X : Cx} {W : WX} {e o a b c : Expr} {es : List Expr} {me mo : ME} {ma mk : MA} {pos p : Pos} {K : PySem.W.Frag} {ga : Ga} {kws : List Keyword}
/-- a def that is called with names -/
structure DefK (X : Cx) (ga : Ga) (f : Addr) (n : Nat) (ks : List Str) (gP : List PV → List PV → List PV) (m : Fn) : Prop where
  ex : ∃ (k : Nat) (fd : FuncData) (ps : List Str), FnM X.prog X.w X.K X.mg X.base ga k f fd ps m ∧ Room k X.A ∧ BindF X.K ga fd ps n ks gP ∧ ∀ xs L, xs.length ≠ ps.length → m xs L = .no
  gd : X.A.guards = some []
  kp : PySem.W.keepIn X.K (.ref f) = true
theorem DefK.run {f : Addr} {n : Nat} {ks : List Str} {gP : List PV → List PV → List PV} {m : Fn} {pins : List (Addr × Obj)} {σ : L2.St} {H : Hp} {s : Shared} {Q : VK} {us ws : List Value} {vs zs : List V} {ι : List Addr} {L : LH} {xs ys : List PV} (F : DefK X Z.f f n ks gP m) (tk : Tk X W)
    (I : Inv X pins σ H s) (r : Vals vs us) (rz : Vals zs ws) (l1 : vs.length = n) (l2 : zs.length = ks.length) (wd : Wd X.K Z.f ι L H) (rx : VRs X.K Z.f ι H xs vs) (ry : VRs X.K Z.f ι H ys zs)
    (g : FL.gd X.K Z.f W (VR X.K Z.f) (m (gP xs ys) L) ι H σ fun _ _ _ v H' => Q v H') : wpAny (model X.prog X.w) X.A (call (.ref f) us (ks.zip ws)) (EP X pins σ Q) X.xe s := by
  obtain ⟨⟨k, fd, ps, F1, hr, ⟨gv, gV, hb, hP⟩, hl0⟩, hgd, hk⟩ := F
  have rall := hP ι H xs ys vs zs rx ry
  have hlen : (gV vs zs).length = ps.length := by
    rw [← rall.len]
    by_cases h : (gP xs ys).length = ps.length
    · exact h
    · rw [hl0 _ _ h] at g; exact g.elim
  have hsp : spM ps.length X.K Z.f m (gV vs zs) H Q (fun c d H => W c d σ H) := ⟨hlen, ι, L, _, wd, rall, g⟩
  have hb' := hb.to s us ws I.kIn (r.length.symm.trans l1) (rz.length.symm.trans l2)
  refine wpAny_call (codeAny_mono (F1.run X.A X.stack s H ⟨us, ks.zip ws⟩ _ _ Q _ hgd hr I.env0 hb' (hb.rel r rz) hsp) fun r s' hq => ?_)
  match r, hq with
  | .error e, hq => exact tk pins σ H s _ e s' I (fun _ _ _ z => z) hq
  | .ok (.ret u), hq => exact I.after hq
  | .ok .next, hq => exact hq.elim
  | .ok .brk, hq => exact hq.elim
  | .ok .cont, hq => exact hq.elim
end
end FL
namespace FL
open PySem PySem.Spec PyProof.Rows L2
section
variable {X : Cx} {Z : Zs} {W : WX} {K : PySem.W.Frag} {ga : Ga}
/-- a class with its own __eq__: nf: the kinds of the other side that never answer first -/
structure Eqo (X : Cx) (ga : Ga) (C : Str) (nf : List Tp) (m : Fn) : Prop where
  ex : ∃ (f : Addr) (k : Nat) (fd : FuncData) (ps : List Str), PySem.W.findIn X.K (.ref (ga C)) "__eq__" = some (some (.ref f)) ∧ PySem.W.isFn X.K (.ref f) = true ∧ FnM X.prog X.w X.K X.mg X.base ga k f fd ps m ∧ Room (k + 2) X.A ∧ Binds X.K fd ps [] ∧ ps.length = 2
  ne : PySem.W.findIn X.K (.ref (ga C)) "__ne__" = some (some (.builtin "object.__ne__"))
  ob : PySem.W.mroIn X.K (ga C) (.type "object") = some true
  nf : ∀ t ∈ nf, PySem.W.notFirst X.K (ga C) (t.v ga) = true
  gd : X.A.guards = some []
  len : ∀ xs L, xs.length ≠ 2 → m xs L = .no
theorem eqo {C : Str} {nf : List Tp} {f : Addr} {fd : FuncData} {ps : List Str} {k k0 : Nat} {m : Fn} (h : PySem.W.findIn X.K (.ref (ga C)) "__eq__" = some (some (.ref f))) (hf : PySem.W.isFn X.K (.ref f) = true) (F : FnM X.prog X.w X.K X.mg X.base ga k f fd ps m) (hb : Binds X.K fd ps [])
    (ne : PySem.W.findIn X.K (.ref (ga C)) "__ne__" = some (some (.builtin "object.__ne__"))) (ob : PySem.W.mroIn X.K (ga C) (.type "object") = some true) (hnf : ∀ t ∈ nf, PySem.W.notFirst X.K (ga C) (t.v ga) = true) (hl : ∀ xs L, xs.length ≠ 2 → m xs L = .no) (hgd : X.A.guards = some []) (hr : Room k0 X.A)
    (hk : k + 2 ≤ k0 := by first | decide | omega | (simp only [Nat.add_eq]; omega)) (hn : ps.length = 2 := by rfl) : Eqo X ga C nf m := ⟨⟨f, k, fd, ps, h, hf, F, hr.mono hk, hb, hn⟩, ne, ob, hnf, hgd, hl⟩
/-- the kind of the other side -/
def tyI (x : PV) (L : LH) : Option Tp := match x with
  | .non => some (.b "NoneType")
  | .bl _ => some (.b "bool")
  | .int _ => some (.b "int")
  | .str _ => some (.b "str")
  | .tup _ => some (.b "tuple")
  | .rol _ => some (.b "list")
  | .obj n => match L[n]? with
    | some (.lst _) => some (.b "list")
    | some (.ins C _) => some (.c C)
    | some (.sli C _) => some (.c C)
    | _ => none
  | _ => none
theorem tyI_ok {ι : List Addr} {L : LH} {H : Hp} {x : PV} {v : V} {t : Tp} (w : Wd K ga ι L H) (r : VR K ga ι H x v) (h : tyI x L = some t) : TyI K H v (t.v ga) := by
  cases x with
  | non => cases h; rw [r.n]; exact .non
  | bl b => cases h; rw [r.b]; exact .bl b
  | int i => cases h; rw [r.i]; exact .int i
  | str z => cases h; rw [r.s]; exact .str z
  | tup xs => cases h; obtain ⟨a, ys, rfl, h1, _⟩ := r; exact .tup h1
  | rol xs => cases h; obtain ⟨a, ys, rfl, h1, _⟩ := r; exact .lst h1.sq
  | obj n =>
    cases hl : L[n]? with
    | none => simp [tyI, hl] at h
    | some o =>
      cases o with
      | lst xs =>
        simp only [tyI, hl] at h; cases h
        obtain ⟨a, ys, rfl, _, h1, _⟩ := lst_at w r hl
        exact .lst (SqL.of h1)
      | ins C fs =>
        simp only [tyI, hl] at h; cases h
        obtain ⟨a, h1, rfl⟩ := r
        obtain ⟨ho, q1, dx, l, rfl, _⟩ := w.at_ n a _ h1 hl
        exact .ins q1
      | sli C vs =>
        simp only [tyI, hl] at h; cases h
        obtain ⟨a, h1, rfl⟩ := r
        obtain ⟨ho, q1, dx, ws, rfl, q2, _⟩ := w.at_ n a _ h1 hl
        exact .sli (.inr ⟨q1, q2⟩)
      | _ => simp [tyI, hl] at h
  | _ => cases h
/-- the class of x and its own __eq__ -/
def eqFind (ms : List (Str × Fn)) (x : PV) (L : LH) : Option Fn := match insOf x L with
  | some (_, C, _) => ms.lookup C
  | none => match sliOf x L with
    | some (_, C, _) => ms.lookup C
    | none => none
/-- a has the class at C -/
def InsI (H : Hp) (a C : Addr) : Prop := (∃ dx l, H a = some (.ins C dx l)) ∨ ∃ dx ws, SlX.Slt H a C dx ws
theorem InsI.inst {pins : List (Addr × Obj)} {σ : L2.St} {H : Hp} {s : Shared} {a C : Addr} (h : InsI H a C) (I : Inv X pins σ H s) : ∃ ox od, PySem.W.InstAt s.heap a ox C (some od) := by
  rcases h with ⟨dx, l, e⟩ | ⟨dx, ws, h⟩
  · obtain ⟨mA, O, _⟩ := ins_get I.hok e
    obtain ⟨od, J, _⟩ := O.look
    exact ⟨_, od, J⟩
  · obtain ⟨sl, od, _, J, _⟩ := SlX.slt_inst I h
    exact ⟨_, od, J⟩
def ownEqF (neg : Bool) (nf : List Tp) (ms : List (Str × Fn)) (x y : PV) (L : LH) : R PV := match eqFind ms x L with
  | some m => (match tyI y L with
    | some t => if nf.contains t = true then (m [x, y] L).noex.bind fun r L1 => (match r with
        | .bl b => .ok (.bl (xor neg b)) L1
        | _ => .no) else .no
    | none => .no)
  | none => if neg = true then neF x y L else eqF x y L
def rOwnE (K : PySem.W.Frag) (ga : Ga) (nf : List Tp) (ms : List (Str × Fn)) (neg : Bool) : R2 := fun u v H Q => ∃ ι L x y m t, Wd K ga ι L H ∧ VR K ga ι H x u ∧ VR K ga ι H y v ∧ eqFind ms x L = some m ∧ tyI y L = some t ∧ t ∈ nf ∧ gd K ga W0 (VR K ga) (m [x, y] L).noex ι H ([] : L2.St) fun _ _ _ v H' => ∃ b, v = .bl b ∧ Q (.bl (xor neg b)) H'
theorem eqFind_at {nf : List Tp} {ms : List (Str × Fn)} (hm : ∀ C m, ms.lookup C = some m → Eqo X Z.f C nf m) {x : PV} {L : LH} {ι : List Addr} {H : Hp} {v : V} {m : Fn} (w : Wd X.K Z.f ι L H) (r : VR X.K Z.f ι H x v) (h : eqFind ms x L = some m) :
    ∃ C a, v = .ref a ∧ InsI H a (Z.f C) ∧ Eqo X Z.f C nf m := by
  unfold eqFind at h
  split at h
  · rename_i n C fs hi
    obtain ⟨rfl, hl, a, dx, l, rfl, hn, ea, rf⟩ := insOf_at w r hi
    exact ⟨C, a, rfl, .inl ⟨dx, l, ea⟩, hm C m h⟩
  · split at h
    · rename_i n C vs hs
      obtain ⟨rfl, hl, a, dx, ws, rfl, hn, ea, ed, rf⟩ := sliOf_at w r hs
      exact ⟨C, a, rfl, .inr ⟨dx, ws, .inr ⟨ea, ed⟩⟩, hm C m h⟩
    · cases h
theorem run_at {A : Around} {np : Nat} {m : Fn} {pins : List (Addr × Obj)} {σ : L2.St} {H : Hp} {s : Shared} {Q : VK} {us : List Value} {vs : List V} {ι : List Addr} {L : LH} {xs : List PV} {f : Addr} {k : Nat} {fd : FuncData} {ps : List Str} (F : FnM X.prog X.w X.K X.mg X.base Z.f k f fd ps m) (sb : Sub X k A) (hga : A.guards = some []) (hb : Binds X.K fd ps []) (hn : ps.length = np) (hl : ∀ xs L, xs.length ≠ np → m xs L = .no)
    (I : Inv X pins σ H s) (r : Vals vs us) (wd : Wd X.K Z.f ι L H) (rx : VRs X.K Z.f ι H xs vs) (g : FL.gd X.K Z.f W0 (VR X.K Z.f) (m xs L) ι H ([] : L2.St) fun _ _ _ v H' => Q v H') : wpAny (model X.prog X.w) A (call (.ref f) us) (EP X pins σ Q) X.xe s := by
  have hlen : vs.length = ps.length := by
    rw [← rx.len]
    by_cases h : xs.length = ps.length
    · exact h
    · rw [hl xs L (by rw [← hn]; exact h)] at g; exact g.elim
  have hsp : spM ps.length X.K Z.f m vs H Q (fun _ _ _ => False) := ⟨hlen, ι, L, xs, wd, rx, g⟩
  have hu : us.length = ps.length := r.length ▸ hlen
  have hb' := hb s us I.kIn (by rw [List.append_nil]; exact hu)
  rw [List.append_nil] at hb'
  have e0 : Env0 X.prog X.w X.K X.mg X.base A X.stack s H := by
    have e := I.env0
    exact ⟨by rw [sb.fr]; exact e.frames, e.mod, e.bs, e.bsz, e.funs, e.frf, e.hok, e.bare⟩
  refine wpAny_call (codeAny_mono (F.run A X.stack s H ⟨us, []⟩ us vs Q _ hga sb.room e0 hb' r hsp) fun r s' hq => ?_)
  match r, hq with
  | .error e, hq => obtain ⟨_, _, _, _, _, _, _, _, _, _, _, _, q⟩ := hq; exact q.elim
  | .ok (.ret u), hq => exact I.after hq
  | .ok .next, hq => exact hq.elim
  | .ok .brk, hq => exact hq.elim
  | .ok .cont, hq => exact hq.elim
theorem noex_gd {r : R PV} {ι : List Addr} {H : Hp} {σ : L2.St} {P : PV → LH → List Addr → V → Hp → Prop} (g : gd K ga W0 (VR K ga) r.noex ι H σ P) : gd K ga W0 (VR K ga) r ι H σ P := by
  cases r with
  | ok => exact g
  | ex => exact g.elim
  | no => exact g.elim
theorem own_eq {nf : List Tp} {ms : List (Str × Fn)} (hm : ∀ C m, ms.lookup C = some m → Eqo X Z.f C nf m) : OpR X (compareOp .Eq) (rOwnE X.K Z.f nf ms false) := by
  intro pins s σ H x y v u Q I rx ry h
  obtain ⟨ι, L, px, py, m, t, w, r1, r2, hf, ht, hn, g⟩ := h
  obtain ⟨C, a, rfl, ea, ⟨f, k, fd, ps, hs, hfn, F, hr, hb, hnp⟩, _, _, hnf, hgd, hl⟩ := eqFind_at hm w r1 hf
  have rx0 := rx
  obtain rfl : v = Value.ref a := rx
  obtain ⟨ox, od, J⟩ := ea.inst I
  obtain ⟨m0, hF⟩ := I.fr
  show wpAny (model X.prog X.w) X.A (richCompare .Eq (.ref a) u) (EP X pins σ Q) X.xe s
  refine PySem.W.cmp_K (op := .Eq) (tb := t.v Z.f) hr.units0 hF I.ok.mod.kin J ((tyI_ok w r2 ht).looks I ry _) (hnf t hn) hs hfn ?_
  refine wpAny_mono (run_at (Z := Z) F ⟨hr.mono (by omega), rfl⟩ hgd hb hnp hl I (us := [.ref a, u]) (vs := [.ref a, y]) (xs := [px, py]) (.cons rx0 (.cons ry .nil)) w ⟨_, _, rfl, r1, _, _, rfl, r2, rfl⟩ (noex_gd g)) (fun r s' hq => ?_) fun _ _ e => e
  obtain ⟨z, H', I', rz, b, rfl, q⟩ := hq
  obtain rfl : r = Value.bool b := rz
  exact ⟨.bl b, H', I', rfl, by simpa using q⟩
end
end FL
namespace FL
open PySem PySem.Spec PyProof.Rows L2
section
variable {X : Cx} {Z : Zs} {W : WX} {K : PySem.W.Frag} {ga : Ga}
theorem own_ne {nf : List Tp} {ms : List (Str × Fn)} (hm : ∀ C m, ms.lookup C = some m → Eqo X Z.f C nf m) : OpR X (compareOp .NotEq) (rOwnE X.K Z.f nf ms true) := by
  intro pins s σ H x y v u Q I rx ry h
  obtain ⟨ι, L, px, py, m, t, wd, r1, r2, hf0, ht, hn, g⟩ := h
  obtain ⟨C, a, rfl, ea, ⟨f, k, fd, ps, hs, hf, F, hr, hb, hnp⟩, hne, hob, hnf, hgd, hl⟩ := eqFind_at hm wd r1 hf0
  have rx0 := rx
  obtain rfl : v = Value.ref a := rx
  obtain ⟨ox, od, J⟩ := ea.inst I
  obtain ⟨m0, hF⟩ := I.fr
  have KX := I.kIn
  have sb : Sub X (k + 1) X.A := ⟨hr.mono (by omega), rfl⟩
  have inner : wpAny (model X.prog X.w) X.A (call (.builtin "object.__ne__") [.ref a, u]) (PySem.W.CmpBack (EP X pins σ Q)) X.xe s := by
    refine wpAny_call (codeAny_call_builtin PySem.F.cmp_object.ne.plain PySem.F.cmpEntry_ne (PySem.W.check_slot PySem.F.cmpKind_ne PySem.F.cmpSplit_ne (J.type.andThen (PySem.W.looks_mroIn KX hob)) (PySem.F.cmpArgs_ne _ _) ?_))
    unfold Builtin.«object.__ne__»
    refine wpAny_bind (m := slotArgs "__ne__" 1 ⟨[.ref a, u], []⟩) (wpAny_of_eq (a := (Value.ref a, [u])) rfl ?_)
    refine wpAny_bind (wpAny_cRoomFor sb.in1.room.units0 ?_)
    refine wpAny_bind (PySem.W.ifBound_K KX J hs hf ?_)
    refine wpAny_mono (run_at (Z := Z) F sb.in1 hgd hb hnp hl I (us := [.ref a, u]) (vs := [.ref a, y]) (xs := [px, py]) (.cons rx0 (.cons ry .nil)) wd ⟨_, _, rfl, r1, _, _, rfl, r2, rfl⟩ (noex_gd g)) (fun w s' q => ?_) fun _ _ e => e
    obtain ⟨z, H', I', rz, c, rfl, q⟩ := q
    cases rz
    refine wpAny_bind (wpAny_truthy_bool (wpAny_pure ?_))
    exact ⟨.bl (!c), H', I', rfl, by simpa using q⟩
  have one : wpAny (model X.prog X.w) X.A (tryCompare (.ref a) "__ne__" u) (fun r s' => ∃ v, r = some v ∧ EP X pins σ Q v s') X.xe s := by
    have fin : wpAny (model X.prog X.w) X.A (call (.builtin "object.__ne__") ([.ref a] ++ [u]) >>= fun v => pure (some v)) (fun r s' => wpAny (model X.prog X.w) X.A (match r with
        | some .notImplemented | none => pure none
        | some v => pure (some v)) (fun r s' => ∃ v, r = some v ∧ EP X pins σ Q v s') X.xe s') X.xe s :=
      wpAny_bind (wpAny_mono inner (fun v s' hv => wpAny_pure (by cases v <;> first | exact hv.elim | exact wpAny_pure ⟨_, rfl, hv⟩)) fun _ _ h' => h')
    unfold tryCompare
    refine wpAny_bind ?_
    simp only [callSpecialIfBound?, bindSpecialIfBound?]
    refine wpAny_holding (wpAny_bind (wpAny_bind (wpAny_bind (J.type.here ((PySem.W.looks_findIn KX hne).here ?_)))))
    simp only [PySem.F.cmp_object.ne.bind]
    refine wpAny_bind (wpAny_askSetting (wpAny_ite ?_))
    split
    · exact wpAny_bind (wpAny_pure (wpAny_pure fin))
    · exact wpAny_tryCatch (wpAny_bind (wpAny_pure (wpAny_pure fin)))
  show wpAny (model X.prog X.w) X.A (richCompare .NotEq (.ref a) u) (EP X pins σ Q) X.xe s
  unfold richCompare
  simp only [oneThing_ref]
  refine wpAny_holding (wpAny_bind (wpAny_cRoomFor hr.units0 ?_))
  refine wpAny_bind (J.type.here (wpAny_bind (((tyI_ok wd r2 ht).looks I ry _).here ?_)))
  split
  · rename_i q
    have e : PySem.W.subIn X.K (t.v Z.f) (.ref (Z.f C)) = some false := by
      rcases Bool.or_eq_true_iff.mp (hnf t hn) with e | e
      · rw [beq_iff_eq.mp e] at q; simp at q
      · exact beq_iff_eq.mp e
    refine wpAny_bind ((PySem.W.looks_subIn KX e).here ?_)
    simp only [Bool.false_eq_true, if_false]
    refine wpAny_bind (wpAny_mono one (fun r s' z => ?_) fun _ _ e => e)
    obtain ⟨v, rfl, hq⟩ := z
    exact wpAny_pure hq
  · refine wpAny_bind (wpAny_pure ?_)
    simp only [Bool.false_eq_true, if_false]
    refine wpAny_bind (wpAny_mono one (fun r s' z => ?_) fun _ _ e => e)
    obtain ⟨v, rfl, hq⟩ := z
    exact wpAny_pure hq
def rNeO (K : PySem.W.Frag) (ga : Ga) (nf : List Tp) (ms : List (Str × Fn)) : R2 := fun x y H Q => rOwnE K ga nf ms true x y H Q ∨ rNeD K x y H Q
theorem op_neO {nf : List Tp} {ms : List (Str × Fn)} (hm : ∀ C m, ms.lookup C = some m → Eqo X Z.f C nf m) (hu : X.A.units + 64 < cLine) : OpR X (compareOp .NotEq) (rNeO X.K Z.f nf ms) := (own_ne hm).or (op_neD hu)
theorem ownE_of {neg : Bool} {nf : List Tp} {ms : List (Str × Fn)} {ι : List Addr} {L : LH} {H : Hp} {σ : L2.St} {x y : PV} {u v : V} {Q : VK} {m : Fn} (w : Wd K ga ι L H) (rx : VR K ga ι H x u) (ry : VR K ga ι H y v) (hf : eqFind ms x L = some m) (g : gd K ga W (VR K ga) (ownEqF neg nf ms x y L) ι H σ fun _ _ _ z H' => Q z H') : rOwnE K ga nf ms neg u v H Q := by
  unfold ownEqF at g
  rw [hf] at g
  dsimp only at g
  split at g
  · rename_i t ht
    split at g
    · rename_i hc
      refine ⟨ι, L, x, y, m, t, w, rx, ry, hf, ht, by simpa using hc, ?_⟩
      cases hq : m [x, y] L with
      | ok r L' =>
        rw [hq] at g
        intro ι' H' v' e' w' r'
        cases r with
        | bl b => exact ⟨b, r'.b, g ι' H' _ e' w' vrb⟩
        | _ => exact g.elim
      | ex => rw [hq] at g; exact g.elim
      | no => rw [hq] at g; exact g.elim
    · exact g.elim
  · exact g.elim
theorem neOL {nf : List Tp} {ms : List (Str × Fn)} : OpL K ga (ownEqF true nf ms) (rNeO K ga nf ms) := by
  intro W ι L H σ x y u v Q w rx ry g
  cases hf : eqFind ms x L with
  | some m => exact .inl (ownE_of w rx ry hf g)
  | none =>
    unfold ownEqF at g
    rw [hf] at g
    exact .inr (neL W ι L H σ x y u v Q w rx ry g)
end
end FL
namespace FL
open PySem PySem.Spec PyProof.Rows L2
section
variable {X : Cx} {Z : Zs} {W : WX} {K : PySem.W.Frag} {ga : Ga}
def mergeP (kvs more : List (Key × PV)) : List (Key × PV) := more.foldl (fun acc kv => putD acc kv.1 kv.2) kvs
theorem DRs.merge {ι : List Addr} {H : Hp} : ∀ {ks : List Key} {xs : List PV} {vs : List V} {acc : List (Key × PV)} {l : List (Key × V)}, VRs K ga ι H xs vs → DRs K ga ι H acc l → DRs K ga ι H (mergeP acc (ks.zip xs)) (mergeK l (ks.zip vs))
  | [], _, _, _, _, _, h => by simp [mergeP, mergeK]; exact h
  | k :: ks, [], _, _, _, r, h => by cases (show _ = [] from r); simp [mergeP, mergeK]; exact h
  | k :: ks, x :: xs, _, _, _, r, h => by
    obtain ⟨y, ys, rfl, r1, r2⟩ := r
    simp only [List.zip_cons_cons, mergeP, mergeK, List.foldl_cons]
    exact DRs.merge (ks := ks) r2 (DRs.put r1 h)
def dctAt (x : PV) (L : LH) : Option (List (Key × PV)) := match x with
  | .obj n => match L[n]? with
    | some (.dct kvs) => some kvs
    | _ => none
  | _ => none
def eqDcF (x y : PV) (L : LH) : R PV := match dctAt x L, dctAt y L with
  | some k1, some k2 => if k1.map (·.1) = k2.map (·.1) ∧ (k1.map (·.1)).Nodup then (match datL L 60 (k1.map (·.2)), datL L 60 (k2.map (·.2)) with
    | some ds, some es => if ds.all SeqAt.shaped = true ∧ es.all SeqAt.shaped = true then .ok (.bl (PyData.eqvAll ds es)) L else .no
    | _, _ => .no) else .no
  | _, _ => .no
theorem DRs.split {ι : List Addr} {H : Hp} : ∀ {kvs : List (Key × PV)} {l : List (Key × V)}, DRs K ga ι H kvs l → ∃ vs, l = (kvs.map (·.1)).zip vs ∧ vs.length = kvs.length ∧ VRs K ga ι H (kvs.map (·.2)) vs
  | [], _, h => by cases (show _ = [] from h); exact ⟨[], rfl, rfl, rfl⟩
  | x :: xs, _, h => by
    obtain ⟨v, r, rfl, h1, h2⟩ := h
    obtain ⟨vs, rfl, e2, e3⟩ := DRs.split h2
    exact ⟨v :: vs, rfl, by simp [e2], v, vs, rfl, h1, e3⟩
theorem eqDcL : OpL K ga eqDcF (rEqDk K) := by
  intro W ι L H σ x y u v Q w rx ry g
  unfold eqDcF at g
  split at g
  · rename_i k1 k2 h1 h2
    split at g
    · rename_i hk
      split at g
      · rename_i ds es d1 d2
        split at g
        · rename_i hs
          have at_ : ∀ {x : PV} {u : V} {kvs : List (Key × PV)}, VR K ga ι H x u → dctAt x L = some kvs → ∃ a l, u = .ref a ∧ H a = some (.dK l) ∧ DRs K ga ι H kvs l := by
            intro x u kvs r h
            unfold dctAt at h
            split at h
            · split at h
              · rename_i hl
                cases h
                obtain ⟨a, l, rfl, _, q1, q2⟩ := dct_at w r hl
                exact ⟨a, l, rfl, q1, q2⟩
              · cases h
            · cases h
          obtain ⟨a, l, rfl, q1, q2⟩ := at_ rx h1
          obtain ⟨b, l', rfl, q3, q4⟩ := at_ ry h2
          obtain ⟨vs, rfl, e1, v1⟩ := q2.split
          obtain ⟨ws, rfl, e2, v2⟩ := q4.split
          rw [← hk.1] at q3
          refine ⟨a, b, k1.map (·.1), vs, ws, ds, es, rfl, rfl, q1, q3, hk.2, by rw [List.length_map, e1], by rw [hk.1, List.length_map, e2], datL_ok w _ _ _ _ v1 d1, datL_ok w _ _ _ _ v2 d2, fun d hd => List.all_eq_true.mp hs.1 d hd, fun d hd => List.all_eq_true.mp hs.2 d hd, g.ok w vrb⟩
        · exact g.elim
      · exact g.elim
    · exact g.elim
  · exact g.elim
end
end FL
namespace FL
open PySem PySem.Spec PyProof.Rows L2
section
variable {X : Cx} {Z : Zs} {K : PySem.W.Frag} {ga : Ga}
def rEqX (K : PySem.W.Frag) : R2 := fun x y H Q => rEqDk K x y H Q ∨ rEqD K x y H Q
theorem op_eqX (hu : X.A.units + 65 < cLine) : OpR X (compareOp .Eq) (rEqX X.K) := (op_eqDk hu).or (op_eqD (by omega))
def rEqOX (K : PySem.W.Frag) (ga : Ga) (nf : List Tp) (ms : List (Str × Fn)) : R2 := fun x y H Q => rOwnE K ga nf ms false x y H Q ∨ rEqX K x y H Q
theorem op_eqOX {nf : List Tp} {ms : List (Str × Fn)} (hm : ∀ C m, ms.lookup C = some m → Eqo X Z.f C nf m) (hu : X.A.units + 65 < cLine) : OpR X (compareOp .Eq) (rEqOX X.K Z.f nf ms) := (own_eq hm).or (op_eqX hu)
theorem eo_nil {nf : List Tp} : ∀ (C : Str) (m : Fn), ([] : List (Str × Fn)).lookup C = some m → Eqo X ga C nf m := fun C m h => nomatch h
theorem eo_cons {nf : List Tp} {C : Str} {m : Fn} {ps : List (Str × Fn)} (h : Eqo X ga C nf m) (r : ∀ (C : Str) (m : Fn), ps.lookup C = some m → Eqo X ga C nf m) : ∀ (D : Str) (m' : Fn), ((C, m) :: ps).lookup D = some m' → Eqo X ga D nf m' := fun D m' h' => by
  rcases lookup_cons h' with ⟨rfl, rfl⟩ | q
  · exact h
  · exact r _ _ q
end
end FL
namespace PySem.SeqAt
open AutoSeq1 (wpAny_loadPart')
open MeetsSeq MeetsSeq2 MeetsSeq3 SeqRoads2
section
variable (prog : Program) (w : World)
/-- two lists from place i on, at most k steps -/
def Stp (A : Around) (l b : Addr) (R : Result → Shared → Prop) : Nat → Nat → Shared → Prop
  | 0, _, _ => False
  | k + 1, i, s => ∃ items items2 : Array Value, s.heap.IsList l items ∧ s.heap.IsList b items2 ∧
      ((∃ x y, items[i]? = some x ∧ items2[i]? = some y ∧ wpAny (model prog w) A.in1 (eqBool x y) (fun r s1 => (r = true → Stp A l b R k (i + 1) s1) ∧ (r = false → ∃ u v : Array Value, s1.heap.IsList l u ∧ s1.heap.IsList b v ∧ i < u.size ∧ i < v.size ∧ R (.ok (.ret (.bool false))) s1)) (fun e s1 => R (.error e) s1) s) ∨
       (items[i]? = none ∧ R (.ok (.ret (.bool (items.size == items2.size)))) s))
end
section
variable {prog : Program} {w : World}
theorem stp_loop (l b : Addr) (k : Nat) : ∀ i : Nat, MeetsIn prog w (Builtin.«list.__eq__.loop» ⟨[.ref l, .ref b, rawInt i, rawInt 2], []⟩) (fun A R s => Stp prog w A l b R k i s) := by
  induction k with
  | zero => intro i A R s h; exact h.elim
  | succ k ih =>
    intro i A R s h
    obtain ⟨items, items2, ⟨⟨cls, dd, data, sl⟩, hl, hc, n, hd⟩, ⟨⟨cls2, dd2, data2, sl2⟩, hb, hc2, n2, hd2⟩, h⟩ := h
    simp only at hc hd hc2 hd2
    subst hc hd hc2 hd2
    obtain ⟨hp, g, d, tk, os⟩ := s
    rcases h with ⟨x, y, e1, e2, h⟩ | ⟨e1, h⟩
    · have hi1 : items[((i : Nat) : Int).toNat]? = some x := by simpa using e1
      have hi2 : items2[((i : Nat) : Int).toNat]? = some y := by simpa using e2
      have hcc : ((i : Int) + 1) = ((i + 1 : Nat) : Int) := by push_cast; rfl
      wp_walk using wpAny_loadPart' hl, wpAny_loadPart' hb
      rw [hi1, hi2]
      refine wpAny_bind (wpAny_mono h (fun r s1 hr => ?_) fun _ _ e => e)
      cases r with
      | true =>
        have hs := hr.1 rfl
        wp_walk
        rw [hcc]
        exact ⟨plainId_quiet plain_eq_loop _, codeAny_builtin entry_eq_loop (by
          rw [Around.under_plainId plain_eq_loop _]
          exact ih (i + 1) A R s1 hs)⟩
      | false =>
        obtain ⟨u, v, ⟨⟨cls3, dd3, data3, sl3⟩, hu, hc3, n3, hd3⟩, ⟨⟨cls4, dd4, data4, sl4⟩, hv, hc4, n4, hd4⟩, l1, l2, hR⟩ := hr.2 rfl
        simp only at hc3 hd3 hc4 hd4
        subst hc3 hd3 hc4 hd4
        obtain ⟨hp', g', d', tk', os'⟩ := s1
        have hj1 : u[((i : Nat) : Int).toNat]? = some u[i] := by simp [l1]
        have hj2 : v[((i : Nat) : Int).toNat]? = some v[i] := by simp [l2]
        wp_walk using wpAny_loadPart' hu, wpAny_loadPart' hv
        rw [hj1, hj2]
        wp_walk
        exact hR
    · have hi1 : items[((i : Nat) : Int).toNat]? = none := by simpa using e1
      wp_walk using wpAny_loadPart' hl, wpAny_loadPart' hb
      rw [hi1]
      wp_walk using wpAny_loadPart' hl, wpAny_loadPart' hb
      exact h
end
end PySem.SeqAt
namespace PySem.SeqAt
open AutoSeq1 (wpAny_loadPart')
open MeetsSeq MeetsSeq2 MeetsSeq3 SeqRoads2
section
variable {prog : Program} {w : World}
theorem stp_eq (l b : Addr) (k : Nat) : MeetsIn prog w (Builtin.«list.__eq__» ⟨[.ref l, .ref b], []⟩) (fun A R s => ∃ items items2 : Array Value, s.heap.IsList l items ∧ s.heap.IsList b items2 ∧
    ((items.size = items2.size ∧ Stp prog w A l b R k 0 s) ∨ (items.size ≠ items2.size ∧ R (.ok (.ret (.bool false))) s))) := by
  intro A R s h
  obtain ⟨items, items2, ⟨⟨cls, dd, data, sl⟩, hl, hc, n, hd⟩, ⟨⟨cls2, dd2, data2, sl2⟩, hb, hc2, n2, hd2⟩, h⟩ := h
  simp only at hc hd hc2 hd2
  subst hc hd hc2 hd2
  obtain ⟨hp, g, d, tk, os⟩ := s
  have f3 := AutoSeq1.sub_list_list
  rcases h with ⟨hsz, h⟩ | ⟨hsz, h⟩
  · have hne : ¬ (items.size != items2.size) = true := by simp [hsz]
    wp_walk using wpAny_loadPart' hl, wpAny_loadPart' hb
    exact ⟨plainId_quiet plain_eq_loop _, codeAny_builtin entry_eq_loop (by
      rw [Around.under_plainId plain_eq_loop _]
      exact stp_loop l b k 0 A R _ h)⟩
  · have hne : (items.size != items2.size) = true := by simp [hsz]
    wp_walk using wpAny_loadPart' hl, wpAny_loadPart' hb
    exact h
theorem rcI_lists {A : Around} {s : Shared} {l b : Addr} {items items2 : Array Value} {k : Nat} {E Q : Value → Shared → Prop} (hl : s.heap.IsList l items) (hb : s.heap.IsList b items2) (hu : A.units < cLine)
    (h : (items.size = items2.size ∧ Stp prog w A l b (wants (fun v s' => v ≠ .notImplemented ∧ Q v s') E) k 0 s) ∨ (items.size ≠ items2.size ∧ Q (.bool false) s)) : wpAny (model prog w) A (richCompare .Eq (.ref l) (.ref b)) Q E s := by
  have hl' := hl
  have hb' := hb
  obtain ⟨⟨cls, dd, data, sl⟩, ho, hc, n, hd⟩ := id hl
  obtain ⟨⟨cls2, dd2, data2, sl2⟩, ho2, hc2, n2, hd2⟩ := id hb
  simp only at hc hd hc2 hd2
  subst hc hd hc2 hd2
  have ta : s.TypeIs (.ref l) "list" := ⟨_, ho, rfl⟩
  have tb : s.TypeIs (.ref b) "list" := ⟨_, ho2, rfl⟩
  exact wpAny_richCompare_same_room (op := .Eq) ta tb F.slot_list_eq (call_meetsIn F.slot_list_eq ta F.entry_list_eq (F.args_list_eq_2 _ _) (stp_eq l b k)
    ⟨items, items2, hl', hb', h.imp id fun ⟨e, q⟩ => ⟨e, show Value.bool false ≠ Value.notImplemented ∧ Q (.bool false) s from ⟨(fun x => nomatch x), q⟩⟩⟩) hu
end
end PySem.SeqAt
namespace L2
open PySem PySem.Spec PyProof.Rows
/-- the first one's value -/
def lookK : List (Key × PyData) → Key → Option PyData
  | [], _ => none
  | p :: r, k => if p.1 = k then some p.2 else lookK r k
/-- each pair of ka is found in kb -/
def hitsF (kb : List (Key × PyData)) : List (Key × PyData) → Bool
  | [] => true
  | (k, d) :: r => match lookK kb k with
    | none => false
    | some e => PyData.eqv d e && hitsF kb r
theorem lookup_at {K : PySem.W.Frag} {H : Hp} (k : Key) : ∀ {lb : List (Key × V)} {es : List PyData}, DpAll K H (lb.map (·.2)) es → (valV lb k = none ∧ lookK ((lb.map (·.1)).zip es) k = none) ∨ ∃ w e, valV lb k = some w ∧ lookK ((lb.map (·.1)).zip es) k = some e ∧ Dp K H w e ∧ e ∈ es
  | [], _, h => by cases h; exact .inl ⟨rfl, rfl⟩
  | p :: lb, _, h => by
    rw [List.map_cons] at h
    cases h with
    | cons hd hds =>
      rename_i d es
      by_cases e : p.1 = k
      · refine .inr ⟨p.2, d, valV_pos e, ?_, hd, List.mem_cons_self⟩
        rw [List.map_cons, List.zip_cons_cons]
        unfold lookK
        rw [if_pos e]
      · rw [valV_neg e, List.map_cons, List.zip_cons_cons]
        unfold lookK
        rw [if_neg e]
        rcases lookup_at k hds with h | ⟨w, e', h1, h2, h3, h4⟩
        · exact .inl h
        · exact .inr ⟨w, e', h1, h2, h3, List.mem_cons_of_mem _ h4⟩
theorem hitsG {X : Cx} {pins : List (Addr × Obj)} {σ : St} {H : Hp} {s : Shared} {A : Around} (I : Inv X pins σ H s) (hu : A.units + 64 < cLine) {lb : List (Key × V)} {vb : List (Key × Value)} {es : List PyData} (rb : KV lb vb) (he : DpAll X.K H (lb.map (·.2)) es) (se : ∀ d ∈ es, SeqAt.shaped d = true) :
    ∀ {la : List (Key × V)} {ds : List PyData} {va : List (Key × Value)}, DpAll X.K H (la.map (·.2)) ds → (∀ d ∈ ds, SeqAt.shaped d = true) → KV la va → PySem.W.KeqHitsP X.prog X.w A s vb va (hitsF ((lb.map (·.1)).zip es) ((la.map (·.1)).zip ds))
  | [], _, _, hd, _, r => by cases hd; cases r; exact .nil
  | p :: la, _, _, hd, sd, r => by
    rw [List.map_cons] at hd
    cases hd with
    | cons h1 h2 =>
      rename_i d ds
      unfold KV at r
      cases r with
      | @cons _ q _ qs h t =>
        obtain ⟨key, u⟩ := q
        obtain ⟨k1, k2⟩ := h
        cases (show p.1 = key from k1)
        rw [List.map_cons, List.zip_cons_cons]
        unfold hitsF
        have rr : RelO (valV lb p.1) (valueAt vb p.1) := rb.val p.1
        rcases lookup_at (K := X.K) p.1 he with ⟨q1, q2⟩ | ⟨w, e, q1, q2, q3, q4⟩
        · rw [q2]
          rw [q1] at rr
          exact .miss (RelO.none_of rr)
        · rw [q2]
          rw [q1] at rr
          obtain ⟨y, hy, ry⟩ := rr.some_of
          obtain ⟨as, r1⟩ := Dp.reads I d p.2 u h1 k2
          obtain ⟨bs, r2⟩ := Dp.reads I e w y q3 ry
          have s1 := sd d List.mem_cons_self
          have s2 := se e q4
          exact .hit hy (SeqAt.eqAt_reads d e A s u y as bs r1 r2 (SeqAt.canLay_of_shaped s1) (SeqAt.canLay_of_shaped s2) (SeqAt.room_of_shaped s1 hu)).eqP (hitsG I hu rb he se h2 (fun d hd => sd d (List.mem_cons_of_mem _ hd)) t)
/-- what == of two dicts tells -/
def eqDD (ka kb : List (Key × PyData)) : Bool := ka.length == kb.length && hitsF kb ka
def rEqDg (K : PySem.W.Frag) : R2 := fun x y H Q => ∃ (a b : Addr) (la lb : List (Key × V)) (ds es : List PyData), x = .ref a ∧ y = .ref b ∧ Rd H a (.dK la) ∧ Rd H b (.dK lb) ∧
  DpAll K H (la.map (·.2)) ds ∧ DpAll K H (lb.map (·.2)) es ∧ (∀ d ∈ ds, SeqAt.shaped d = true) ∧ (∀ d ∈ es, SeqAt.shaped d = true) ∧ Q (.bl (eqDD ((la.map (·.1)).zip ds) ((lb.map (·.1)).zip es))) H
theorem DpAll.len {K : PySem.W.Frag} {H : Hp} : ∀ {vs : List V} {ds : List PyData}, DpAll K H vs ds → vs.length = ds.length
  | [], _, h => by cases h; rfl
  | v :: vs, _, h => by cases h with | cons h1 h2 => simp [DpAll.len h2]
theorem rc_eqDg {X : Cx} {pins : List (Addr × Obj)} {σ : St} {H : Hp} {s : Shared} {A : Around} {E : Value → Shared → Prop} {x y : V} {v u : Value} {Q : VK} (hu : A.units + 65 < cLine) (I : Inv X pins σ H s) (rx : RelV x v) (ry : RelV y u) (h : rEqDg X.K x y H Q) :
    wpAny (model X.prog X.w) A (richCompare .Eq v u) (EP X pins σ Q) E s := by
  obtain ⟨a, b, la, lb, ds, es, rfl, rfl, ha, hb, hd, he, sd, se, q⟩ := h
  cases rx
  cases ry
  obtain ⟨_, ya, va, ra, da⟩ := (show ObjOk X.prog X.w H s.heap a (.dK la) from ha.ok I.hok)
  obtain ⟨_, yb, vb, rb, db⟩ := (show ObjOk X.prog X.w H s.heap b (.dK lb) from hb.ok I.hok)
  refine PySem.W.rcP_dicts (knd := mixKind X.prog X.w) (r := hitsF ((lb.map (·.1)).zip es) ((la.map (·.1)).zip ds)) ya yb da db (by omega) (fun _ => hitsG I (A := A.in1) (by show A.units + 1 + 64 < cLine; omega) rb he se hd sd ra) _ _ ?_
  have e : (va.length == vb.length) = (((la.map (·.1)).zip ds).length == ((lb.map (·.1)).zip es).length) := by
    have h1 := hd.len
    have h2 := he.len
    rw [List.length_map] at h1 h2
    rw [← ra.length, ← rb.length, List.length_zip, List.length_zip, List.length_map, List.length_map, ← h1, ← h2]
    simp
  exact ⟨.bl _, H, I, by rw [e]; rfl, q⟩
theorem op_eqDg {X : Cx} (hu : X.A.units + 65 < cLine) : OpR X (compareOp .Eq) (rEqDg X.K) := fun pins s σ H x y v u Q I rx ry h => rc_eqDg hu I rx ry h
end L2
namespace FL
open PySem PySem.Spec PyProof.Rows L2
section
variable {K : PySem.W.Frag} {ga : Ga}
def dctR (x : PV) (L : LH) : Option (List (Key × PV)) := match x with
  | .obj n => (L[n]?).bind dctOf
  | _ => none
def eqDgF (x y : PV) (L : LH) : R PV := match dctR x L, dctR y L with
  | some k1, some k2 => (match datL L 60 (k1.map (·.2)), datL L 60 (k2.map (·.2)) with
    | some ds, some es => if ds.all SeqAt.shaped = true ∧ es.all SeqAt.shaped = true then .ok (.bl (eqDD ((k1.map (·.1)).zip ds) ((k2.map (·.1)).zip es))) L else .no
    | _, _ => .no)
  | _, _ => .no
theorem dctR_at {ι : List Addr} {L : LH} {H : Hp} {x : PV} {u : V} {kvs : List (Key × PV)} (w : Wd K ga ι L H) (r : VR K ga ι H x u) (h : dctR x L = some kvs) : ∃ a l, u = .ref a ∧ Rd H a (.dK l) ∧ DRs K ga ι H kvs l := by
  unfold dctR at h
  split at h
  · obtain ⟨o, ho, hd⟩ := Option.bind_eq_some_iff.mp h
    obtain ⟨a, l, rfl, _, q1, q2⟩ := dct_rd w r ho hd
    exact ⟨a, l, rfl, q1, q2⟩
  · cases h
theorem eqDgL : OpL K ga eqDgF (rEqDg K) := by
  intro W ι L H σ x y u v Q w rx ry g
  unfold eqDgF at g
  split at g
  · rename_i k1 k2 h1 h2
    split at g
    · rename_i ds es d1 d2
      split at g
      · rename_i hs
        obtain ⟨a, l, rfl, q1, q2⟩ := dctR_at w rx h1
        obtain ⟨b, l', rfl, q3, q4⟩ := dctR_at w ry h2
        obtain ⟨vs, rfl, e1, v1⟩ := q2.split
        obtain ⟨ws, rfl, e2, v2⟩ := q4.split
        have z1 : ((k1.map (·.1)).zip vs).map (·.2) = vs := List.map_snd_zip (by rw [List.length_map, e1]; exact Nat.le_refl _)
        have z2 : ((k2.map (·.1)).zip ws).map (·.2) = ws := List.map_snd_zip (by rw [List.length_map, e2]; exact Nat.le_refl _)
        have z3 : ((k1.map (·.1)).zip vs).map (·.1) = k1.map (·.1) := List.map_fst_zip (by rw [List.length_map, e1]; exact Nat.le_refl _)
        have z4 : ((k2.map (·.1)).zip ws).map (·.1) = k2.map (·.1) := List.map_fst_zip (by rw [List.length_map, e2]; exact Nat.le_refl _)
        refine ⟨a, b, _, _, ds, es, rfl, rfl, q1, q3, by rw [z1]; exact datL_ok w _ _ _ _ v1 d1, by rw [z2]; exact datL_ok w _ _ _ _ v2 d2, fun d hd => List.all_eq_true.mp hs.1 d hd, fun d hd => List.all_eq_true.mp hs.2 d hd, ?_⟩
        rw [z3, z4]
        exact g.ok w vrb
      · exact g.elim
    · exact g.elim
  · exact g.elim
end
end FL
namespace FL
open PySem PySem.Spec PyProof.Rows L2
def lsO (n : Nat) (L : LH) : Option (List PV) := match L[n]? with
  | some (.lst xs) => some xs
  | _ => none
theorem lsO_at {n : Nat} {L : LH} {xs : List PV} (h : lsO n L = some xs) : L[n]? = some (.lst xs) := by
  unfold lsO at h
  split at h
  · cases h; assumption
  · cases h
def itEq (nf : List Tp) (ms : List (Str × Fn)) (x y : PV) (L : LH) : R PV := match x, y with
  | .obj n, .obj m => if n = m then .ok (.bl true) L else (match eqFind ms x L with
    | some _ => ownEqF false nf ms x y L
    | none => (match dctR x L with
      | some _ => eqDgF x y L
      | none => eqF x y L))
  | _, _ => eqF x y L
theorem eqDgF_bl (x y : PV) (L : LH) : (∃ b, eqDgF x y L = .ok (.bl b) L) ∨ eqDgF x y L = .no := by
  unfold eqDgF
  split
  · split
    · split
      · exact .inl ⟨_, rfl⟩
      · exact .inr rfl
    · exact .inr rfl
  · exact .inr rfl
def eqLsB (n m i : Nat) (L : LH) : R PV := match lsO n L, lsO m L with
  | some us, some vs => if i < us.length ∧ i < vs.length then .ok (.bl false) L else .no
  | _, _ => .no
def eqLs (nf : List Tp) (ms : List (Str × Fn)) (n m : Nat) : Nat → Nat → LH → R PV
  | 0, _, _ => .no
  | k + 1, i, L => match lsO n L, lsO m L with
    | some xs, some ys => (match xs[i]?, ys[i]? with
      | some x, some y => (itEq nf ms x y L).noex.bind fun r L1 => (match r with
        | .bl true => eqLs nf ms n m k (i + 1) L1
        | .bl false => eqLsB n m i L1
        | _ => .no)
      | some _, none => .no
      | none, _ => .ok (.bl (xs.length == ys.length)) L)
    | _, _ => .no
def eqLO (nf : List Tp) (ms : List (Str × Fn)) (x y : PV) (L : LH) : R PV := match x, y with
  | .obj n, .obj m => (match lsO n L, lsO m L with
    | some xs, some ys => if xs.length = ys.length then eqLs nf ms n m (xs.length + 1) 0 L else .ok (.bl false) L
    | _, _ => .no)
  | _, _ => .no
section
variable {X : Cx} {Z : Zs} {W : WX} {K : PySem.W.Frag} {ga : Ga} {pins : List (Addr × Obj)} {σ : L2.St} {H : Hp} {s : Shared}
theorem isList_of {ι : List Addr} {L : LH} {n : Nat} {xs : List PV} {a : Addr} (I : Inv X pins σ H s) (w : Wd X.K Z.f ι L H) (ha : ι[n]? = some a) (h : lsO n L = some xs) : ∃ ys its, VRs X.K Z.f ι H xs ys ∧ Vals ys its ∧ s.heap.IsList a its.toArray := by
  obtain ⟨ho, q1, ys, rfl, q2⟩ := w.at_ n a _ ha (lsO_at h)
  obtain ⟨_, its, k, rv, hg⟩ := I.hok a _ q1
  exact ⟨ys, its, q2, rv, _, hg, rfl, k, rfl⟩
/-- the own == one level below -/
theorem own_in1 {nf : List Tp} {ms : List (Str × Fn)} (hm : ∀ C m, ms.lookup C = some m → Eqo X Z.f C nf m) {x y : V} {v u : Value} {Q : VK} (I : Inv X pins σ H s) (rx : RelV x v) (ry : RelV y u) (h : rOwnE X.K Z.f nf ms false x y H Q) : wpAny (model X.prog X.w) X.A.in1 (richCompare .Eq v u) (EP X pins σ Q) X.xe s := by
  obtain ⟨ι, L, px, py, m, t, w, r1, r2, hf, ht, hn, g⟩ := h
  obtain ⟨C, a, rfl, ea, ⟨f, k, fd, ps, hs, hfn, F, hr, hb, hnp⟩, _, _, hnf, hgd, hl⟩ := eqFind_at hm w r1 hf
  have rx0 := rx
  obtain rfl : v = Value.ref a := rx
  obtain ⟨ox, od, J⟩ := ea.inst I
  obtain ⟨m0, hF⟩ := I.fr
  have sb : Sub X (k + 1) X.A.in1 := Sub.in1 ⟨hr, rfl⟩
  refine PySem.W.cmp_K (op := .Eq) (tb := t.v Z.f) sb.room.units0 hF I.ok.mod.kin J ((tyI_ok w r2 ht).looks I ry _) (hnf t hn) hs hfn ?_
  refine wpAny_mono (run_at (Z := Z) F (sb.mono (by omega)) hgd hb hnp hl I (us := [.ref a, u]) (vs := [.ref a, y]) (xs := [px, py]) (.cons rx0 (.cons ry .nil)) w ⟨_, _, rfl, r1, _, _, rfl, r2, rfl⟩ (noex_gd g)) (fun r s' hq => ?_) fun _ _ e => e
  obtain ⟨z, H', I', rz, b, rfl, q⟩ := hq
  obtain rfl : r = Value.bool b := rz
  exact ⟨.bl b, H', I', rfl, by simpa using q⟩
theorem fin_item {n m : Nat} {ι : List Addr} {L : LH} {vx vy : V} {u v : Value} {Post : VK} (hne : ¬ n = m) (w : Wd X.K Z.f ι L H) (_I : Inv X pins σ H s) (rx : VR X.K Z.f ι H (.obj n) vx) (ry : VR X.K Z.f ι H (.obj m) vy) (ru : RelV vx u) (rv : RelV vy v)
    (own : wpAny (model X.prog X.w) X.A.in1 (richCompare .Eq u v) (EP X pins σ fun v H' => ∃ b, v = .bl b ∧ Post v H') X.xe s) : wpAny (model X.prog X.w) X.A.in1 (eqBool u v) (fun r s' => ∃ H', Inv X pins σ H' s' ∧ Post (.bl r) H') X.xe s := by
  obtain ⟨a, h1, rfl⟩ := rx
  obtain ⟨b, h2, rfl⟩ := ry
  have nab : a ≠ b := fun e => by
    subst e
    obtain ⟨l1, e1⟩ := List.getElem?_eq_some_iff.mp h1
    obtain ⟨l2, e2⟩ := List.getElem?_eq_some_iff.mp h2
    exact hne ((List.getElem_inj w.nd).mp (e1.trans e2.symm))
  obtain rfl : u = Value.ref a := ru
  obtain rfl : v = Value.ref b := rv
  unfold eqBool
  refine wpAny_holding ?_
  refine wpAny_ite_split (fun hab => absurd (by have := eq_of_beq hab; injection this) nab) (fun _ => ?_)
  refine wpAny_bind (wpAny_mono own (fun r s' hq => ?_) fun _ _ e => e)
  obtain ⟨z, H', I', rz, c, rfl, q⟩ := hq
  obtain rfl : r = Value.bool c := rz
  exact wpAny_truthy_bool ⟨H', I', q⟩
theorem eqB_item {nf : List Tp} {ms : List (Str × Fn)} (hm : ∀ C m, ms.lookup C = some m → Eqo X Z.f C nf m) (hu : X.A.units + 66 < cLine) {ι : List Addr} {L : LH} {x y : PV} {vx vy : V} {u v : Value} {Post : VK} (I : Inv X pins σ H s) (w : Wd X.K Z.f ι L H) (rx : VR X.K Z.f ι H x vx) (ry : VR X.K Z.f ι H y vy) (ru : RelV vx u) (rv : RelV vy v)
    (g : gd X.K Z.f W0 (VR X.K Z.f) (itEq nf ms x y L).noex ι H ([] : L2.St) fun _ _ _ v H' => Post v H') : wpAny (model X.prog X.w) X.A.in1 (eqBool u v) (fun r s' => ∃ H', Inv X pins σ H' s' ∧ Post (.bl r) H') X.xe s := by
  have data : gd X.K Z.f W0 (VR X.K Z.f) (eqF x y L).noex ι H ([] : L2.St) (fun _ _ _ v H' => Post v H') → wpAny (model X.prog X.w) X.A.in1 (eqBool u v) (fun r s' => ∃ H', Inv X pins σ H' s' ∧ Post (.bl r) H') X.xe s := by
    intro g
    unfold eqF at g
    split at g
    · rename_i b hb
      obtain ⟨d, e, h1, h2, h3, h4, rfl⟩ := eqD_ok w rx ry hb
      obtain ⟨as, r1⟩ := Dp.reads I d vx u h1 ru
      obtain ⟨bs, r2⟩ := Dp.reads I e vy v h2 rv
      exact SeqAt.eqAt_reads d e X.A.in1 s u v as bs r1 r2 (SeqAt.canLay_of_shaped h3) (SeqAt.canLay_of_shaped h4) (SeqAt.room_of_shaped h3 (by show X.A.units + 1 + 64 < cLine; omega)) _ _ _ _ ⟨H, I, g.ok w vrb⟩
    · exact g.elim
  unfold itEq at g
  split at g
  · rename_i n m
    split at g
    · rename_i e
      subst e
      obtain ⟨a, h1, rfl⟩ := rx
      obtain ⟨b, h2, rfl⟩ := ry
      rw [h1] at h2
      cases h2
      obtain rfl : u = Value.ref a := ru
      obtain rfl : v = Value.ref a := rv
      exact SeqAt.EqAt.same _ _ _ _ _ ⟨H, I, g.ok w vrb⟩
    · rename_i hne
      cases hf : eqFind ms (.obj n) L with
      | none =>
        rw [hf] at g
        dsimp only at g
        cases hd : dctR (.obj n) L with
        | none => rw [hd] at g; exact data g
        | some kvs =>
          rw [hd] at g
          dsimp only at g
          rcases eqDgF_bl (.obj n) (.obj m) L with ⟨b, e⟩ | e
          · rw [e] at g
            have own : wpAny (model X.prog X.w) X.A.in1 (richCompare .Eq u v) (EP X pins σ fun v H' => ∃ b, v = .bl b ∧ Post v H') X.xe s :=
              rc_eqDg (by show X.A.units + 1 + 65 < cLine; omega) I ru rv (eqDgL W0 ι L H ([] : L2.St) _ _ _ _ _ w rx ry (by rw [e]; exact fun ι' H' v' e' w' r' => ⟨b, r'.b, g ι' H' v' e' w' r'⟩))
            exact fin_item hne w I rx ry ru rv own
          · rw [e] at g; exact g.elim
      | some mm =>
        rw [hf] at g
        have g' : gd X.K Z.f W0 (VR X.K Z.f) (ownEqF false nf ms (.obj n) (.obj m) L) ι H ([] : L2.St) (fun _ _ _ v H' => ∃ b, v = .bl b ∧ Post v H') := by
          unfold ownEqF at g ⊢
          rw [hf] at g ⊢
          dsimp only at g ⊢
          split at g
          · split at g
            · rename_i hc
              rw [if_pos hc]
              cases hq : (mm [.obj n, .obj m] L).noex with
              | no => rw [hq] at g; exact g.elim
              | ex => rw [hq] at g; exact g.elim
              | ok r L1 =>
                rw [hq] at g
                cases r with
                | bl b =>
                  intro ι' H' v' e' w' r'
                  exact ⟨_, r'.b, g ι' H' v' e' w' r'⟩
                | _ => exact g.elim
            · exact g.elim
          · exact g.elim
        have own := own_in1 hm I ru rv (ownE_of w rx ry hf g')
        exact fin_item hne w I rx ry ru rv own
  · exact data g
theorem eqls_fin {c : Bool} {Q : VK} (I : Inv X pins σ H s) (q : Q (.bl c) H) : wants (fun v s' => v ≠ .notImplemented ∧ EP X pins σ Q v s') X.xe (.ok (.ret (.bool c))) s := ⟨(fun z => nomatch z : Value.bool c ≠ .notImplemented), .bl c, H, I, rfl, q⟩
theorem eqls_stp {nf : List Tp} {ms : List (Str × Fn)} (hm : ∀ C m, ms.lookup C = some m → Eqo X Z.f C nf m) (hu : X.A.units + 66 < cLine) {n m : Nat} {a b : Addr} {Q : VK} : ∀ (k i : Nat) (ι : List Addr) (L : LH) (H : Hp) (s : Shared), Inv X pins σ H s → Wd X.K Z.f ι L H → ι[n]? = some a → ι[m]? = some b → gd X.K Z.f W0 (VR X.K Z.f) (eqLs nf ms n m k i L) ι H ([] : L2.St) (fun _ _ _ v H' => Q v H') →
    SeqAt.Stp X.prog X.w X.A a b (wants (fun v s' => v ≠ .notImplemented ∧ EP X pins σ Q v s') X.xe) k i s
  | 0, i, ι, L, H, s, I, w, ha, hb, g => g.elim
  | k + 1, i, ι, L, H, s, I, w, ha, hb, g => by
    unfold eqLs at g
    cases hn : lsO n L with
    | none => rw [hn] at g; exact g.elim
    | some xs =>
      cases hm' : lsO m L with
      | none => rw [hn, hm'] at g; exact g.elim
      | some ys =>
        rw [hn, hm'] at g
        dsimp only at g
        obtain ⟨vs, its, r1, v1, l1⟩ := isList_of I w ha hn
        obtain ⟨us, its2, r2, v2, l2⟩ := isList_of I w hb hm'
        refine ⟨its.toArray, its2.toArray, l1, l2, ?_⟩
        have e1 : xs.length = its.length := r1.len.trans v1.length
        have e2 : ys.length = its2.length := r2.len.trans v2.length
        cases hx : xs[i]? with
        | none =>
          rw [hx] at g
          have g : gd X.K Z.f W0 (VR X.K Z.f) (.ok (.bl (xs.length == ys.length)) L) ι H ([] : L2.St) (fun _ _ _ v H' => Q v H') := g
          refine .inr ⟨?_, ?_⟩
          · have := List.getElem?_eq_none_iff.mp hx
            simp
            omega
          · have q := g.ok w vrb
            have e3 : (its.toArray.size == its2.toArray.size) = (xs.length == ys.length) := by rw [List.size_toArray, List.size_toArray, e1, e2]
            rw [e3]
            exact eqls_fin I q
        | some x =>
          cases hy : ys[i]? with
          | none => rw [hx, hy] at g; exact g.elim
          | some y =>
            rw [hx, hy] at g
            dsimp only at g
            obtain ⟨vx, gx, rx⟩ := r1.get hx
            obtain ⟨vy, gy, ry⟩ := r2.get hy
            obtain ⟨ux, fx, ru⟩ := v1.get gx
            obtain ⟨uy, fy, rv⟩ := v2.get gy
            refine .inl ⟨ux, uy, by simpa using fx, by simpa using fy, ?_⟩
            have g2 := gd.bind (rel := VR X.K Z.f) (P1 := fun _ _ _ v H' => ∃ ι1 L1 c, v = V.bl c ∧ Ext X.K ι H ι1 H' ∧ Wd X.K Z.f ι1 L1 H' ∧ gd X.K Z.f W0 (VR X.K Z.f) (if c = true then eqLs nf ms n m k (i + 1) L1 else eqLsB n m i L1) ι1 H' ([] : L2.St) (fun _ _ _ v H' => Q v H')) g (fun r L1 ι1 v' H1 _ ex w1 rr gg => by
              cases r with
              | bl c =>
                refine ⟨ι1, L1, c, rr.b, ex, w1, ?_⟩
                cases c <;> exact gg
              | _ => exact gg.elim)
            refine wpAny_mono (eqB_item hm hu I w rx ry ru rv g2) (fun r s' hq => ?_) fun _ _ e => e
            obtain ⟨H', I', ι1, L1, c, ec, ex, w1, gg⟩ := hq
            cases ec
            have up : ∀ {j : Nat} {d : Addr}, ι[j]? = some d → ι1[j]? = some d := fun {j d} hj => by
              obtain ⟨⟨δ, rfl, _⟩, _⟩ := ex
              rw [List.getElem?_append_left (List.getElem?_eq_some_iff.mp hj).1]
              exact hj
            cases r with
            | true => exact ⟨fun _ => eqls_stp hm hu k (i + 1) ι1 L1 H' s' I' w1 (up ha) (up hb) gg, fun z => nomatch z⟩
            | false =>
              refine ⟨(fun z => nomatch z), fun _ => ?_⟩
              have gg : gd X.K Z.f W0 (VR X.K Z.f) (eqLsB n m i L1) ι1 H' ([] : L2.St) (fun _ _ _ v H' => Q v H') := gg
              unfold eqLsB at gg
              cases hn1 : lsO n L1 with
              | none => rw [hn1] at gg; exact gg.elim
              | some us1 =>
                cases hm1 : lsO m L1 with
                | none => rw [hn1, hm1] at gg; exact gg.elim
                | some vs1 =>
                  rw [hn1, hm1] at gg
                  dsimp only at gg
                  split at gg
                  · rename_i hl
                    obtain ⟨vs', its', r1', v1', l1'⟩ := isList_of I' w1 (up ha) hn1
                    obtain ⟨us', its2', r2', v2', l2'⟩ := isList_of I' w1 (up hb) hm1
                    refine ⟨_, _, l1', l2', ?_, ?_, eqls_fin I' (gg.ok w1 vrb)⟩
                    · simp; rw [← v1'.length, ← r1'.len]; exact hl.1
                    · simp; rw [← v2'.length, ← r2'.len]; exact hl.2
                  · exact gg.elim
theorem noex_ne {α : Type} (r : R α) : ∀ c fs L', r.noex ≠ .ex c fs L' := fun c fs L' h => by cases r <;> cases h
theorem eqLs_ne {nf : List Tp} {ms : List (Str × Fn)} {n m : Nat} : ∀ (k i : Nat) (L : LH) (c : Str) (fs : List (Str × PV)) (L' : LH), eqLs nf ms n m k i L ≠ .ex c fs L'
  | 0, _, _, _, _, _, h => nomatch h
  | k + 1, i, L, c, fs, L', h => by
    unfold eqLs at h
    cases hn : lsO n L with
    | none => rw [hn] at h; cases h
    | some xs =>
      cases hm' : lsO m L with
      | none => rw [hn, hm'] at h; cases h
      | some ys =>
        rw [hn, hm'] at h
        dsimp only at h
        cases hx : xs[i]? with
        | none => rw [hx] at h; cases h
        | some x =>
          cases hy : ys[i]? with
          | none => rw [hx, hy] at h; cases h
          | some y =>
            rw [hx, hy] at h
            dsimp only at h
            cases hi : (itEq nf ms x y L).noex with
            | no => rw [hi] at h; cases h
            | ex => exact noex_ne _ _ _ _ hi
            | ok r L1 =>
              rw [hi] at h
              cases r with
              | bl b =>
                cases b with
                | true => exact eqLs_ne k (i + 1) L1 c fs L' h
                | false =>
                  have h : eqLsB n m i L1 = .ex c fs L' := h
                  unfold eqLsB at h
                  split at h
                  · split at h <;> cases h
                  · cases h
              | _ => cases h
theorem gd_w0 {α β : Type} {rel : List Addr → Hp → α → β → Prop} {r : R α} {ι : List Addr} {H : Hp} {σ σ' : L2.St} {P : α → LH → List Addr → β → Hp → Prop} (h : ∀ c fs L', r ≠ .ex c fs L') (g : gd K ga W rel r ι H σ P) : gd K ga W0 rel r ι H σ' P := by
  cases r with
  | ok => exact g
  | no => exact g
  | ex c fs L' => exact absurd rfl (h c fs L')
def rEqL (K : PySem.W.Frag) (ga : Ga) (nf : List Tp) (ms : List (Str × Fn)) : R2 := fun u v H Q => ∃ ι L n m, Wd K ga ι L H ∧ VR K ga ι H (.obj n) u ∧ VR K ga ι H (.obj m) v ∧ gd K ga W0 (VR K ga) (eqLO nf ms (.obj n) (.obj m) L) ι H ([] : L2.St) fun _ _ _ v H' => Q v H'
theorem op_eqL0 {nf : List Tp} {ms : List (Str × Fn)} (hm : ∀ C m, ms.lookup C = some m → Eqo X Z.f C nf m) (hu : X.A.units + 66 < cLine) : OpR X (compareOp .Eq) (rEqL X.K Z.f nf ms) := by
  intro pins s σ H x y v u Q I rx ry h
  obtain ⟨ι, L, n, m, w, ⟨a, ha, rfl⟩, ⟨b, hb, rfl⟩, g⟩ := h
  obtain rfl : v = Value.ref a := rx
  obtain rfl : u = Value.ref b := ry
  show wpAny (model X.prog X.w) X.A (richCompare .Eq (.ref a) (.ref b)) (EP X pins σ Q) X.xe s
  unfold eqLO at g
  dsimp only at g
  cases hn : lsO n L with
  | none => rw [hn] at g; exact g.elim
  | some xs =>
    cases hm' : lsO m L with
    | none => rw [hn, hm'] at g; exact g.elim
    | some ys =>
      rw [hn, hm'] at g
      dsimp only at g
      obtain ⟨vs, its, r1, v1, l1⟩ := isList_of I w ha hn
      obtain ⟨us, its2, r2, v2, l2⟩ := isList_of I w hb hm'
      have e1 : xs.length = its.length := r1.len.trans v1.length
      have e2 : ys.length = its2.length := r2.len.trans v2.length
      by_cases hl : xs.length = ys.length
      · rw [if_pos hl] at g
        exact SeqAt.rcI_lists l1 l2 (by omega) (.inl ⟨by simp; omega, eqls_stp hm hu _ 0 ι L H s I w ha hb g⟩)
      · rw [if_neg hl] at g
        exact SeqAt.rcI_lists (k := 0) l1 l2 (by omega) (.inr ⟨by simp; omega, .bl false, H, I, rfl, g.ok w vrb⟩)
/-- lists after all others -/
def eqAF (nf : List Tp) (ms : List (Str × Fn)) (x y : PV) (L : LH) : R PV := match eqFind ms x L with
  | some _ => ownEqF false nf ms x y L
  | none => (match dctAt x L with
    | some _ => eqDcF x y L
    | none => (match eqD L x y with
      | some b => .ok (.bl b) L
      | none => eqLO nf ms x y L))
def rEqAll (K : PySem.W.Frag) (ga : Ga) (nf : List Tp) (ms : List (Str × Fn)) : R2 := fun x y H Q => rEqOX K ga nf ms x y H Q ∨ rEqL K ga nf ms x y H Q
theorem op_eqAll {nf : List Tp} {ms : List (Str × Fn)} (hm : ∀ C m, ms.lookup C = some m → Eqo X Z.f C nf m) (hu : X.A.units + 66 < cLine) : OpR X (compareOp .Eq) (rEqAll X.K Z.f nf ms) := (op_eqOX hm (by omega)).or (op_eqL0 hm hu)
theorem eqAllL {nf : List Tp} {ms : List (Str × Fn)} : OpL K ga (eqAF nf ms) (rEqAll K ga nf ms) := by
  intro W ι L H σ x y u v Q w rx ry g
  unfold eqAF at g
  cases hf : eqFind ms x L with
  | some m => rw [hf] at g; exact .inl (.inl (ownE_of w rx ry hf g))
  | none =>
    rw [hf] at g
    dsimp only at g
    cases hd : dctAt x L with
    | some kvs => rw [hd] at g; exact .inl (.inr (.inl (eqDcL W ι L H σ x y u v Q w rx ry g)))
    | none =>
      rw [hd] at g
      dsimp only at g
      cases hq : eqD L x y with
      | some b =>
        rw [hq] at g
        refine .inl (.inr (.inr (eqL W ι L H σ x y u v Q w rx ry ?_)))
        unfold eqF
        rw [hq]
        exact g
      | none =>
        rw [hq] at g
        dsimp only at g
        unfold eqLO at g
        split at g
        · rename_i n m
          refine .inr ⟨ι, L, n, m, w, rx, ry, ?_⟩
          unfold eqLO
          dsimp only
          cases hn : lsO n L with
          | none => rw [hn] at g; exact g.elim
          | some xs =>
            cases hm' : lsO m L with
            | none => rw [hn, hm'] at g; exact g.elim
            | some ys =>
              rw [hn, hm'] at g
              dsimp only at g ⊢
              by_cases hl : xs.length = ys.length
              · rw [if_pos hl] at g ⊢
                exact gd_w0 (eqLs_ne _ _ _) g
              · rw [if_neg hl] at g ⊢
                exact gd_w0 (fun _ _ _ z => nomatch z) g
        · exact g.elim
end
end FL
namespace FL
open PySem PySem.Spec PyProof.Rows L2
/-- the text that an entry holds -/
def eTx (e : Int × Value) : Str := match e.2 with
  | .str k _ => k
  | _ => ""
def EOk (w : World) (e : Int × Value) : Prop := ∃ (k : Str) (t : Tok), e = (hashStr w k, Value.str k t)
/-- the members, and how they lie -/
def Mem (w : World) (ks : List Str) (es : Array (Int × Value)) : Prop := (∀ e ∈ es.toList, EOk w e) ∧ (es.toList.map eTx).Perm ks ∧ ks.Nodup
def insT (k : Str) (ks : List Str) : List Str := if k ∈ ks then ks else k :: ks
section
variable {P : Program} {w : World} {A : Around} {E : Value → Shared → Prop} {s : Shared} {a : Addr} {ks : List Str} {es es1 : Array (Int × Value)} {t t1 : SetTable} {k : Str} {tk : Tok}
theorem EOk.of {e : Int × Value} (h : EOk w e) : ∃ tk, e.2 = Value.str (eTx e) tk ∧ e.1 = hashStr w (eTx e) := by
  obtain ⟨k, tk, rfl⟩ := h
  exact ⟨tk, rfl, rfl⟩
theorem EOk.is {e : Int × Value} (h : EOk w e) : (strKind P w).is k e.2 = true ↔ eTx e = k := by
  obtain ⟨tk, e1, _⟩ := h.of
  rw [e1]
  show ((eTx e == k) = true) ↔ _
  exact beq_iff_eq
theorem Mem.len (m : Mem w ks es) : es.size = ks.length := by
  have q := m.2.1.length_eq
  rw [List.length_map, Array.length_toList] at q
  exact q
theorem Mem.mem (m : Mem w ks es) : k ∈ ks ↔ ∃ e ∈ es.toList, eTx e = k := by
  rw [← m.2.1.mem_iff, List.mem_map]
theorem Mem.perm (m : Mem w ks es) (p : es1.toList.Perm es.toList) : Mem w ks es1 := ⟨fun e he => m.1 e (p.mem_iff.mp he), (p.map eTx).trans m.2.1, m.2.2⟩
theorem Mem.one (m : Mem w ks es) (hk : k ∉ ks) (p : es1.toList.Perm (es.push (hashStr w k, .str k tk)).toList) : Mem w (insT k ks) es1 := by
  have p' : es1.toList.Perm ((hashStr w k, .str k tk) :: es.toList) := by
    rw [Array.toList_push] at p
    exact p.trans (List.perm_append_singleton _ _)
  unfold insT
  rw [if_neg hk]
  refine ⟨fun e he => ?_, ((p'.map eTx).trans ?_), List.nodup_cons.mpr ⟨hk, m.2.2⟩⟩
  · rcases List.mem_cons.mp (p'.mem_iff.mp he) with rfl | z
    · exact ⟨k, tk, rfl⟩
    · exact m.1 e z
  · rw [List.map_cons]
    exact List.Perm.cons _ m.2.1
end
end FL
namespace FL
open PySem PySem.Spec PyProof.Rows L2
end FL
namespace FL
open PySem PySem.Spec PyProof.Rows L2
end FL
namespace FL
open PySem PySem.Spec PyProof.Rows L2
end FL
namespace FL
open PySem PySem.Spec PyProof.Rows L2
def gcT2 (m : MT) : MT := fun τ L => match m τ L with
  | .ok b L' => .ok b (gcK2 L.length L [] L')
  | r => r
section
variable {X : Cx} {Z : Zs} {W : WX} {c : Expr} {tc : MT}
theorem ft_gc2 (h : FT Z X W c tc) : FT Z X W c (gcT2 tc) := PT.imp h fun σ H Q ⟨ι, L, τ, w, s, g⟩ => by
  refine ⟨ι, L, τ, w, s, ?_⟩
  unfold gcT2 at g
  cases hm : tc τ L with
  | no => rw [hm] at g; exact g
  | ex => rw [hm] at g; exact g
  | ok b L' =>
    rw [hm] at g
    dsimp only at g
    rcases gcK2_or w [] L' with e | ⟨k, h1, h2, h3, h4, e⟩
    · rw [e] at g; exact g
    · rw [e] at g
      intro ι' H' v ex w' r
      exact g _ H' v (ex.first (by rw [w.len]; exact h1)) (w'.first h2 h4) r
end
theorem x_gcT2 {c : MT} {τ : Sl} {L J : LH} {k : Bool} (h : c τ L = .ok k (L ++ J)) : gcT2 c τ L = .ok k L := by
  unfold gcT2
  rw [h]
  show R.ok k (gcK2 L.length L [] (L ++ J)) = _
  unfold gcK2
  have hn : Nat.max L.length (mxBs []) = L.length := Nat.max_eq_left (Nat.zero_le _)
  rw [hn, if_pos ⟨Nat.ble_eq.mpr (by simp), rfl, okI_iff.mpr fun i o q => .inr (by simpa using q)⟩, List.take_left]
end FL
namespace FL
open PySem PySem.Spec PyProof.Rows L2
end FL
namespace FL
open PySem PySem.Spec PyProof.Rows L2
end FL
namespace FL
open PySem PySem.Spec PyProof.Rows L2
end FL
namespace FL
open PySem PySem.Spec PyProof.Rows L2
end FL
namespace FL
open PySem PySem.Spec PyProof.Rows L2
end FL
namespace FL
open PySem PySem.Spec PyProof.Rows L2
section
variable {X : Cx} {e e3 : Expr} {te : TE} {tp : TO} {pos p2 : Pos}
def tRev (K : PySem.W.Frag) (te : TE) (tp : TO) : TE := fun σ H Q => te σ H fun x H1 => tp σ H1 fun o H2 => o = some (-1) ∧ ∃ a xs, x = .ref a ∧ SqL K H2 a xs ∧ ∀ p, H2 p = none → Q (.ref p) (upd H2 p (.lst xs.reverse))
theorem pe_rev (he : PE X e te) (hp : PO X (some e3) tp) : PE X (.Subscript e (.Slice none none (some e3) p2) pos) (tRev X.K te tp) := by
  refine ⟨fun pins s σ H Q I h => ?_⟩
  refine Subscript_ (thn (he.run pins s σ H _ I h) fun v s1 ⟨x, H1, I1, r1, q1⟩ => ?_)
  refine wpAny_Slice ?_
  rw [evalPart_none]
  refine wpAny_pure ?_
  refine wpAny_pure ?_
  refine thn (hp.run pins s1 σ H1 _ I1 q1) fun vs s3 ⟨o, H3, I3, ps, q3⟩ => ?_
  obtain ⟨rfl, a, xs, rfl, hx, q⟩ := q3
  have I4 : Inv X pins σ H3 { s3 with heap := s3.heap.push { cls := .type "slice", data := .fields #[.none, .none, vs] } } := I3.kept (t' := s3.toks) fun b ob q => Heap.get?_push_of_some _ q
  obtain rfl : v = Value.ref a := r1
  obtain ⟨its, r, ht, hz⟩ := I4.list hx
  have hlen := r.length
  show wpAny (model X.prog X.w) X.A (subscriptTail e (.Slice none none (some e3) p2) (.ref a) (.ref s3.heap.objs.size)) (EP X pins σ Q) X.xe { s3 with heap := s3.heap.push { cls := .type "slice", data := .fields #[.none, .none, vs] } }
  refine tail_any (ops := [.ref a, .ref s3.heap.objs.size]) ht.isList.typeIs slot_list_getitem.lookup ?_ (by with_unfolding_all rfl)
  refine wpAny_getItem_list_slice ht.isList (Heap.IsSliceOf.new ..) .none .none ps (by simp) ?_ (by rw [List.size_toArray] <;> omega)
  rw [PySem.W.krv_pick]
  refine ⟨.ref (Heap.push s3.heap { cls := .type "slice", data := .fields #[.none, .none, vs] }).objs.size, _, I4.laid (t' := s3.toks) (o := .lst xs.reverse) (fun b ob q => Heap.get?_push_of_some _ q) (Nat.le_refl _) ?_, rfl, q _ (I4.hok.fresh (Nat.le_refl _))⟩
  refine ⟨by rw [List.length_reverse]; exact hz, _, 0, r.reverse, ?_⟩
  exact Heap.get?_push_size _ rfl
end
section
variable {X : Cx} {Z : Zs} {W : WX} {e e3 : Expr} {me : ME} {ms : MO} {pos p2 : Pos} {K : PySem.W.Frag} {ga : Ga}
def revF (x : PV) (L : LH) : R PV := match x with
  | .rol xs => .ok (.obj L.length) (L ++ [.lst xs.reverse])
  | .obj n => (match L[n]? with
    | some (.lst xs) => .ok (.obj L.length) (L ++ [.lst xs.reverse])
    | _ => .no)
  | _ => .no
def eRev (mo : ME) (ms : MO) : ME := fun τ L => (mo τ L).bind fun x L1 => (ms τ L1).bind fun o L2 => if o = some (-1) then revF x L2 else .no
theorem VRs.rev {ι : List Addr} {H : Hp} {xs : List PV} {vs : List V} (r : VRs K ga ι H xs vs) : VRs K ga ι H xs.reverse vs.reverse := by
  induction xs generalizing vs with
  | nil => cases (show vs = [] from r); exact r
  | cons x xs ih =>
    obtain ⟨v, vs', rfl, h1, h2⟩ := r
    rw [List.reverse_cons, List.reverse_cons]
    exact VRs.app (ih h2) ⟨v, [], rfl, h1, rfl⟩
theorem fe_rev (he : FE Z X W e me) (hs : FO Z X W (some e3) ms) : FE Z X W (.Subscript e (.Slice none none (some e3) p2) pos) (eRev me ms) :=
  PE.imp (pe_rev he hs) fun σ H Q h => tM.bind h fun τ x L1 ι1 u H1 w1 s1 r1 g1 => ⟨ι1, L1, τ, w1, s1, gd.bind g1 fun o L2 ι2 o' H2 _ e2 w2 eo g2 => by
    cases eo
    have r2 := r1.up e2
    split at g2
    · rename_i ho
      refine ⟨ho, ?_⟩
      cases x with
      | rol xs =>
        obtain ⟨a, ys, rfl, h1, h2⟩ := r2
        exact ⟨a, ys, rfl, h1.sq, fun p hp => new_lst w2 h2.rev g2 hp⟩
      | obj n =>
        unfold revF at g2
        dsimp only at g2
        split at g2
        · rename_i hln
          obtain ⟨a, ys, rfl, _, h1, h2⟩ := lst_at w2 r2 hln
          exact ⟨a, ys, rfl, SqL.of h1, fun p hp => new_lst w2 h2.rev g2 hp⟩
        · exact g2.elim
      | _ => exact g2.elim
    · exact g2.elim⟩
end
end FL
namespace PySem.SeqAt
open AutoSeq1 (wpAny_loadPart')
open MeetsSeq MeetsSeq2 MeetsSeq3 SeqRoads2
section
variable {prog : Program} {w : World}
/-- the result that tells the other -/
def Rn (R : Result → Shared → Prop) : Result → Shared → Prop := fun r s => match r with
  | .ok (.ret (.bool b)) => R (.ok (.ret (.bool (!b)))) s
  | .error e => R (.error e) s
  | _ => False
theorem stp_mono {l b : Addr} {A : Around} {R R' : Result → Shared → Prop} (h : ∀ r s, R r s → R' r s) : ∀ {k i : Nat} {s : Shared}, Stp prog w A l b R k i s → Stp prog w A l b R' k i s
  | 0, _, _, z => z.elim
  | k + 1, i, s, z => by
    obtain ⟨u, v, h1, h2, z⟩ := z
    refine ⟨u, v, h1, h2, ?_⟩
    rcases z with ⟨x, y, e1, e2, z⟩ | ⟨e1, z⟩
    · refine .inl ⟨x, y, e1, e2, wpAny_mono z (fun r s1 q => ⟨fun e => stp_mono h (q.1 e), fun e => ?_⟩) fun e s1 q => h _ _ q⟩
      obtain ⟨u', v', a1, a2, a3, a4, a5⟩ := q.2 e
      exact ⟨u', v', a1, a2, a3, a4, h _ _ a5⟩
    · exact .inr ⟨e1, h _ _ z⟩
theorem stpN_loop (l b : Addr) (k : Nat) : ∀ i : Nat, MeetsIn prog w (Builtin.«list.__eq__.loop» ⟨[.ref l, .ref b, rawInt i, rawInt 3], []⟩) (fun A R s => Stp prog w A l b (Rn R) k i s) := by
  induction k with
  | zero => intro i A R s h; exact h.elim
  | succ k ih =>
    intro i A R s h
    obtain ⟨items, items2, ⟨⟨cls, dd, data, sl⟩, hl, hc, n, hd⟩, ⟨⟨cls2, dd2, data2, sl2⟩, hb, hc2, n2, hd2⟩, h⟩ := h
    simp only at hc hd hc2 hd2
    subst hc hd hc2 hd2
    obtain ⟨hp, g, d, tk, os⟩ := s
    rcases h with ⟨x, y, e1, e2, h⟩ | ⟨e1, h⟩
    · have hi1 : items[((i : Nat) : Int).toNat]? = some x := by simpa using e1
      have hi2 : items2[((i : Nat) : Int).toNat]? = some y := by simpa using e2
      have hcc : ((i : Int) + 1) = ((i + 1 : Nat) : Int) := by push_cast; rfl
      wp_walk using wpAny_loadPart' hl, wpAny_loadPart' hb
      rw [hi1, hi2]
      refine wpAny_bind (wpAny_mono h (fun r s1 hr => ?_) fun _ _ e => e)
      cases r with
      | true =>
        have hs := hr.1 rfl
        wp_walk
        rw [hcc]
        exact ⟨plainId_quiet plain_eq_loop _, codeAny_builtin entry_eq_loop (by
          rw [Around.under_plainId plain_eq_loop _]
          exact ih (i + 1) A R s1 hs)⟩
      | false =>
        obtain ⟨u, v, ⟨⟨cls3, dd3, data3, sl3⟩, hu, hc3, n3, hd3⟩, ⟨⟨cls4, dd4, data4, sl4⟩, hv, hc4, n4, hd4⟩, l1, l2, hR⟩ := hr.2 rfl
        simp only at hc3 hd3 hc4 hd4
        subst hc3 hd3 hc4 hd4
        obtain ⟨hp', g', d', tk', os'⟩ := s1
        have hj1 : u[((i : Nat) : Int).toNat]? = some u[i] := by simp [l1]
        have hj2 : v[((i : Nat) : Int).toNat]? = some v[i] := by simp [l2]
        wp_walk using wpAny_loadPart' hu, wpAny_loadPart' hv
        rw [hj1, hj2]
        wp_walk
        exact hR
    · have hi1 : items[((i : Nat) : Int).toNat]? = none := by simpa using e1
      wp_walk using wpAny_loadPart' hl, wpAny_loadPart' hb
      rw [hi1]
      wp_walk using wpAny_loadPart' hl, wpAny_loadPart' hb
      show R (.ok (.ret (.bool (items.size != items2.size)))) _
      exact h
theorem stp_ne (l b : Addr) (k : Nat) : MeetsIn prog w (Builtin.«list.__ne__» ⟨[.ref l, .ref b], []⟩) (fun A R s => ∃ items items2 : Array Value, s.heap.IsList l items ∧ s.heap.IsList b items2 ∧
    ((items.size = items2.size ∧ Stp prog w A l b (Rn R) k 0 s) ∨ (items.size ≠ items2.size ∧ R (.ok (.ret (.bool true))) s))) := by
  intro A R s h
  obtain ⟨items, items2, ⟨⟨cls, dd, data, sl⟩, hl, hc, n, hd⟩, ⟨⟨cls2, dd2, data2, sl2⟩, hb, hc2, n2, hd2⟩, h⟩ := h
  simp only at hc hd hc2 hd2
  subst hc hd hc2 hd2
  obtain ⟨hp, g, d, tk, os⟩ := s
  have f3 := AutoSeq1.sub_list_list
  rcases h with ⟨hsz, h⟩ | ⟨hsz, h⟩
  · have hne : ¬ (items.size != items2.size) = true := by simp [hsz]
    wp_walk using wpAny_loadPart' hl, wpAny_loadPart' hb
    exact ⟨plainId_quiet plain_eq_loop _, codeAny_builtin entry_eq_loop (by
      rw [Around.under_plainId plain_eq_loop _]
      exact stpN_loop l b k 0 A R _ h)⟩
  · have hne : (items.size != items2.size) = true := by simp [hsz]
    wp_walk using wpAny_loadPart' hl, wpAny_loadPart' hb
    exact h
theorem rcI_listsN {A : Around} {s : Shared} {l b : Addr} {items items2 : Array Value} {k : Nat} {E Q : Value → Shared → Prop} (hl : s.heap.IsList l items) (hb : s.heap.IsList b items2) (hu : A.units < cLine)
    (h : (items.size = items2.size ∧ Stp prog w A l b (Rn (wants (fun v s' => v ≠ .notImplemented ∧ Q v s') E)) k 0 s) ∨ (items.size ≠ items2.size ∧ Q (.bool true) s)) : wpAny (model prog w) A (richCompare .NotEq (.ref l) (.ref b)) Q E s := by
  have hl' := hl
  have hb' := hb
  obtain ⟨⟨cls, dd, data, sl⟩, ho, hc, n, hd⟩ := id hl
  obtain ⟨⟨cls2, dd2, data2, sl2⟩, ho2, hc2, n2, hd2⟩ := id hb
  simp only at hc hd hc2 hd2
  subst hc hd hc2 hd2
  have ta : s.TypeIs (.ref l) "list" := ⟨_, ho, rfl⟩
  have tb : s.TypeIs (.ref b) "list" := ⟨_, ho2, rfl⟩
  exact wpAny_richCompare_same_room (op := .NotEq) ta tb F.slot_list_ne (call_meetsIn F.slot_list_ne ta F.entry_list_ne (F.args_list_ne_2 _ _) (stp_ne l b k)
    ⟨items, items2, hl', hb', h.imp id fun ⟨e, q⟩ => ⟨e, show Value.bool true ≠ Value.notImplemented ∧ Q (.bool true) s from ⟨(fun x => nomatch x), q⟩⟩⟩) hu
end
end PySem.SeqAt
namespace FL
open PySem PySem.Spec PyProof.Rows L2
def flipB (r : R PV) : R PV := r.bind fun v L => match v with
  | .bl b => .ok (.bl (!b)) L
  | _ => .no
/-- != : own, data, lists -/
def neAF (nf : List Tp) (ms : List (Str × Fn)) (x y : PV) (L : LH) : R PV := match eqFind ms x L with
  | some _ => ownEqF true nf ms x y L
  | none => (match eqD L x y with
    | some b => .ok (.bl (!b)) L
    | none => flipB (eqLO nf ms x y L))
section
variable {X : Cx} {Z : Zs} {W : WX} {K : PySem.W.Frag} {ga : Ga} {pins : List (Addr × Obj)} {σ : L2.St} {H : Hp} {s : Shared}
theorem rn_wants {Q : VK} {r : Result} {s : Shared} (h : wants (fun v s' => v ≠ .notImplemented ∧ EP X pins σ (fun x H' => ∃ c, x = .bl c ∧ Q (.bl (!c)) H') v s') X.xe r s) : SeqAt.Rn (wants (fun v s' => v ≠ .notImplemented ∧ EP X pins σ Q v s') X.xe) r s := by
  unfold wants at h
  split at h
  all_goals first
    | exact h.elim
    | (obtain ⟨_, x, H', I, rx, c, rfl, q⟩ := h
       obtain rfl := (show _ = Value.bool c from rx)
       exact ⟨(fun z => nomatch z), .bl (!c), H', I, rfl, q⟩)
    | exact h
def rNeL (K : PySem.W.Frag) (ga : Ga) (nf : List Tp) (ms : List (Str × Fn)) : R2 := fun u v H Q => rEqL K ga nf ms u v H fun x H' => ∃ c, x = .bl c ∧ Q (.bl (!c)) H'
theorem op_neL0 {nf : List Tp} {ms : List (Str × Fn)} (hm : ∀ C m, ms.lookup C = some m → Eqo X Z.f C nf m) (hu : X.A.units + 66 < cLine) : OpR X (compareOp .NotEq) (rNeL X.K Z.f nf ms) := by
  intro pins s σ H x y v u Q I rx ry h
  obtain ⟨ι, L, n, m, w, ⟨a, ha, rfl⟩, ⟨b, hb, rfl⟩, g⟩ := h
  obtain rfl : v = Value.ref a := rx
  obtain rfl : u = Value.ref b := ry
  show wpAny (model X.prog X.w) X.A (richCompare .NotEq (.ref a) (.ref b)) (EP X pins σ Q) X.xe s
  unfold eqLO at g
  dsimp only at g
  cases hn : lsO n L with
  | none => rw [hn] at g; exact g.elim
  | some xs =>
    cases hm' : lsO m L with
    | none => rw [hn, hm'] at g; exact g.elim
    | some ys =>
      rw [hn, hm'] at g
      dsimp only at g
      obtain ⟨vs, its, r1, v1, l1⟩ := isList_of I w ha hn
      obtain ⟨us, its2, r2, v2, l2⟩ := isList_of I w hb hm'
      have e1 : xs.length = its.length := r1.len.trans v1.length
      have e2 : ys.length = its2.length := r2.len.trans v2.length
      by_cases hl : xs.length = ys.length
      · rw [if_pos hl] at g
        exact SeqAt.rcI_listsN l1 l2 (by omega) (.inl ⟨by simp; omega, SeqAt.stp_mono (fun r s q => rn_wants q) (eqls_stp hm hu _ 0 ι L H s I w ha hb g)⟩)
      · rw [if_neg hl] at g
        have q := g.ok w vrb
        obtain ⟨c, ec, q⟩ := q
        cases ec
        exact SeqAt.rcI_listsN (k := 0) l1 l2 (by omega) (.inr ⟨by simp; omega, .bl true, H, I, rfl, q⟩)
def rNeAll (K : PySem.W.Frag) (ga : Ga) (nf : List Tp) (ms : List (Str × Fn)) : R2 := fun x y H Q => rNeO K ga nf ms x y H Q ∨ rNeL K ga nf ms x y H Q
theorem op_neAll {nf : List Tp} {ms : List (Str × Fn)} (hm : ∀ C m, ms.lookup C = some m → Eqo X Z.f C nf m) (hu : X.A.units + 66 < cLine) : OpR X (compareOp .NotEq) (rNeAll X.K Z.f nf ms) := (op_neO hm (by omega)).or (op_neL0 hm hu)
theorem neAllL {nf : List Tp} {ms : List (Str × Fn)} : OpL K ga (neAF nf ms) (rNeAll K ga nf ms) := by
  intro W ι L H σ x y u v Q w rx ry g
  unfold neAF at g
  cases hf : eqFind ms x L with
  | some m => rw [hf] at g; exact .inl (neOL W ι L H σ x y u v Q w rx ry g)
  | none =>
    rw [hf] at g
    dsimp only at g
    cases hq : eqD L x y with
    | some b =>
      rw [hq] at g
      refine .inl (.inr (neL W ι L H σ x y u v Q w rx ry ?_))
      unfold neF
      rw [hq]
      exact g
    | none =>
      rw [hq] at g
      have g2 : gd K ga W (VR K ga) (flipB (eqLO nf ms x y L)) ι H σ (fun _ _ _ v H' => Q v H') := g
      have g : gd K ga W (VR K ga) (eqLO nf ms x y L) ι H σ (fun _ _ _ v H' => ∃ c, v = .bl c ∧ Q (.bl (!c)) H') := gd.bind (rel := VR K ga) (P1 := fun _ _ _ v H' => ∃ c, v = .bl c ∧ Q (.bl (!c)) H') g2 (fun r L1 ι1 v' H1 _ ex w1 rr gg => by
        cases r with
        | bl c => exact ⟨c, rr.b, gg.ok w1 vrb⟩
        | _ => exact gg.elim)
      refine .inr ?_
      unfold eqLO at g
      split at g
      · rename_i n m _
        refine ⟨ι, L, n, m, w, rx, ry, ?_⟩
        unfold eqLO
        dsimp only
        cases hn : lsO n L with
        | none => rw [hn] at g; exact g.elim
        | some xs =>
          cases hm' : lsO m L with
          | none => rw [hn, hm'] at g; exact g.elim
          | some ys =>
            rw [hn, hm'] at g
            dsimp only at g ⊢
            by_cases hl : xs.length = ys.length
            · rw [if_pos hl] at g ⊢
              exact gd_w0 (eqLs_ne _ _ _) g
            · rw [if_neg hl] at g ⊢
              exact gd_w0 (fun _ _ _ z => nomatch z) g
      · exact g.elim
end
end FL
namespace FL
open PySem PySem.Spec PyProof.Rows L2
end FL
namespace PySem
open Sem (wp)
open AutoSeq1 (wpAny_loadPart')
end PySem
namespace FL
open PySem PySem.Spec PyProof.Rows L2
end FL
namespace FL
open PySem PySem.Spec PyProof.Rows L2
end FL
namespace FL
open PySem PySem.Spec PyProof.Rows L2
end FL
namespace FL
open PySem PySem.Spec PyProof.Rows L2
/-- the pairs of a display: keys ks, values by mr -/
structure FPs (Z : Zs) (X : Cx) (W : WX) (pos : Pos) (keys : List (Option Expr)) (values : List Expr) (trs : List (TE × TE)) (ks : List Str) (mr : MA) : Prop where
  p : PPs X pos keys values trs
  r : ∀ (σ : L2.St) (H : Hp) (Q : List (V × V) → Hp → Prop), tM X.K Z W (VRs X.K Z.f) mr σ H (fun vs H' => Q ((ks.map V.str).zip vs) H') → tPairs trs σ H Q
  l : ∀ τ L xs L', mr τ L = .ok xs L' → xs.length = ks.length
section
variable {X : Cx} {Z : Zs} {W : WX} {pos : Pos} {keys : List (Option Expr)} {values : List Expr} {trs : List (TE × TE)} {ks : List Str} {mr : MA} {e : Expr} {me : ME}
theorem fps_nil : FPs Z X W pos [] [] [] [] aN := ⟨pps_nil, fun σ H Q ⟨ι, L, τ, w, s, g⟩ => g.ok (v := []) w (by simp [VRs]), fun τ L xs L' h => by cases h; rfl⟩
theorem fps_cons {k : Str} {j : Nat} {kpos : Pos} (ha : FE Z X W e me) (hr : FPs Z X W pos keys values trs ks mr) :
    FPs Z X W pos (some (.Constant (.str k) j kpos) :: keys) (e :: values) ((tC (.str k), tM X.K Z W (VR X.K Z.f) me) :: trs) (k :: ks) (aC me mr) :=
  ⟨pps_cons pe_str ha hr.p, fun σ H Q h => by
    show tM X.K Z W (VR X.K Z.f) me σ H fun y H2 => tPairs trs σ H2 fun ps H3 => Q ((.str k, y) :: ps) H3
    exact tM.bind h fun τ x L1 ι1 u H1 w1 s1 r1 g1 => hr.r _ _ _ ⟨ι1, L1, τ, w1, s1, g1.bind fun y L2 ι2 v H2 _ e w2 r2 g2 => g2.ok w2 (v := u :: v) ⟨u, v, rfl, r1.up e, r2⟩⟩, fun τ L xs L' h => by
    unfold aC at h
    cases h1 : me τ L with
    | ok x L1 =>
      rw [h1] at h
      cases h2 : mr τ L1 with
      | ok ys L2 =>
        simp only [R.bind, h2] at h
        cases h
        simp [hr.l _ _ _ _ h2]
      | ex => simp only [R.bind, h2] at h; cases h
      | no => simp only [R.bind, h2] at h; cases h
    | ex => rw [h1] at h; cases h
    | no => rw [h1] at h; cases h⟩
def eDs (ks : List Str) (mr : MA) : ME := fun τ L => (mr τ L).bind fun xs L1 => .ok (.obj L1.length) (L1 ++ [.dct (mergeP [] ((ks.map Sum.inr).zip xs))])
theorem fe_disp (h : FPs Z X W pos keys values trs ks mr) (hall : keys.all (·.isSome) = true) (hl : keys.length = values.length) (h0 : keys ≠ []) (h15 : keys.length ≤ 15) (hk : ks.length ≤ 15) : FE Z X W (.Dict keys values pos) (eDs ks mr) :=
  PE.imp (pe_disp h.p hall hl h0 h15) fun σ H Q ⟨ι, L, τ, w, s, g⟩ p hp => by
    have hpi : p ∉ ι := fun z => by
      obtain ⟨ho, q1, _⟩ := w.some z
      rw [hp] at q1; cases q1
    have e0 := Ext.new (K := X.K) (ι := ι) (o := .dK []) hp
    refine h.r _ _ _ ⟨ι, L, τ, w.new hp, s.up e0, ?_⟩
    unfold eDs at g
    cases hq : mr τ L with
    | no => rw [hq] at g; exact g
    | ex c fs L1 =>
      rw [hq] at g
      exact gd.ext (show gd X.K Z.f W (VRs X.K Z.f) (.ex c fs L1) ι H σ _ from g) e0
    | ok xs L1 =>
      rw [hq] at g
      have g : gd X.K Z.f W (VR X.K Z.f) (.ok (.obj L1.length) (L1 ++ [.dct (mergeP [] ((ks.map Sum.inr).zip xs))])) ι H σ fun _ _ _ v H' => Q v H' := g
      intro ι2 H2 vs e2 w2 r2
      obtain ⟨d2, n2⟩ := e2.keep upd_same hpi
      have hlen := h.l _ _ _ _ hq
      refine ⟨d2, (ks.map Sum.inr).zip vs, ?_, ?_, ?_⟩
      · have : ∀ (ks : List Str) (vs : List V), (ks.map V.str).zip vs = ((ks.map Sum.inr).zip vs).map fun (kv : Key × V) => (kV kv.1, kv.2) := by
          intro ks
          induction ks with
          | nil => intro vs; rfl
          | cons k ks ih =>
            intro vs
            cases vs with
            | nil => rfl
            | cons v vs => simp only [List.map_cons, List.zip_cons_cons, ih]; rfl
        exact this ks vs
      · rw [List.length_zip, List.length_map]
        omega
      · have u := Up.tmp (K := X.K) (ι := ι2) (o := .dK (mergeK [] ((ks.map Sum.inr).zip vs))) d2 True.intro
        have wt := w2.tmp (o := .dK (mergeK [] ((ks.map Sum.inr).zip vs))) d2 True.intro n2
        have et := (e0.trans e2).tmp (o := .dK (mergeK [] ((ks.map Sum.inr).zip vs))) (.of hp) d2 True.intro
        have wA := wt.adopt (o := .dct (mergeP [] ((ks.map Sum.inr).zip xs))) upd_same n2 ⟨_, rfl, DRs.merge (ks := ks.map Sum.inr) (r2.upU u) rfl⟩
        refine g _ _ (.ref p) (et.adopt (.of hp)) wA ⟨p, ?_, rfl⟩
        rw [← w2.len]
        simp
end
end FL
namespace FL
open PySem PySem.Spec PyProof.Rows L2
end FL
namespace FL
open PySem PySem.Spec PyProof.Rows L2
end FL
namespace L2
open PySem PySem.Spec PyProof.Rows
end L2
namespace FL
open PySem PySem.Spec PyProof.Rows L2
end FL
namespace FL
open PySem PySem.Spec PyProof.Rows L2
end FL
namespace FL
open PySem PySem.Spec PyProof.Rows L2
end FL
namespace FL
open PySem PySem.Spec PyProof.Rows L2
end FL
namespace L2
open PySem PySem.Spec PyProof.Rows
section
variable {X : Cx} {pins : List (Addr × Obj)} {σ : St} {H : Hp} {s : Shared} {it : Addr}
structure NewW (X : Cx) (pins : List (Addr × Obj)) (it : Addr) : Prop where
  loc : it ≠ X.env.locals
  fs : it ∉ X.fs
  old : it ∈ X.ex ∨ X.s_0.heap.get? it = none
  cell : ∀ x c, X.env.cells.lookup x = some c → c ≠ it
  pin : ∀ p ∈ X.pn ++ pins, p.1 ≠ it
  base : X.base.get? it = none
/-- an iterator has come that may be an older address -/
def PIEW (X : Cx) (pins : List (Addr × Obj)) (σ : St) (tg : Expr) (R : It → Hp → Prop) (itv : Value) (s2 : Shared) : Prop :=
  ∃ (it : Addr) (tn : Nat → Heap → Prop) (J : It) (H' : Hp), itv = .ref it ∧ Inv X pins σ H' s2 ∧ Turn X.prog X.w X.K tg J [it] it tn ∧ tn 0 s2.heap ∧ H' it = none ∧ NewW X pins it ∧ R J H'
structure PIW (X : Cx) (tg iter : Expr) (wi : TI) : Prop where
  run : ∀ (pins : List (Addr × Obj)) (s : Shared) (σ : St) (H : Hp) (R : It → Hp → Prop), Inv X pins σ H s → wi σ H R →
    wpAny (model X.prog X.w) X.A (eval iter X.env) (fun v s1 => wpAny (model X.prog X.w) X.A (pyIter v) (PIEW X pins σ tg R) X.xe s1) X.xe s
end
end L2
namespace L2
open PySem PySem.Spec PyProof.Rows
end L2
namespace FL
open PySem PySem.Spec PyProof.Rows L2
end FL
namespace FL
open PySem PySem.Spec PyProof.Rows L2
theorem PIW.imp {X : Cx} {e tg : Expr} {t t' : TI} (h : PIW X tg e t) (q : ∀ σ H R, t' σ H R → t σ H R) : PIW X tg e t' := ⟨fun pins s σ H R I z => h.run pins s σ H R I (q _ _ _ z)⟩
end FL
namespace FL
open PySem PySem.Spec PyProof.Rows L2
end FL
namespace L2
open PySem PySem.Spec PyProof.Rows PySem.W PySem.Calls
end L2
namespace L2
open PySem PySem.Spec PyProof.Rows
end L2
namespace FL
open PySem PySem.Spec PyProof.Rows L2
end FL
namespace FL
open PySem PySem.Spec PyProof.Rows L2
end FL
namespace L2
open PySem PySem.Spec PyProof.Rows
end L2
namespace L2
open PySem PySem.Spec PyProof.Rows
end L2
namespace FL
open PySem PySem.Spec PyProof.Rows L2
end FL
namespace L2
open PySem PySem.Spec PyProof.Rows StX
/-- what a def (self, **fields) promises of a call with the keywords ks -/
def FnKw (P : Program) (w : World) (K : PySem.W.Frag) (mg : Str → Option Value) (base : Heap) (CX : CXT) (k : Nat) (f : Addr) (ks : List Str) (sp : V → List V → Hp → VK → XK → Prop) : Prop :=
  ∀ (A : Around) (outer : List Env) (s : Shared) (H : Hp) (u : Value) (us : List Value) (v : V) (vs : List V) (Q : VK) (E : XK), Room k A → Env0 P w K mg base A outer s H → RelV v u → Vals vs us → vs.length = ks.length → sp v vs H Q E →
    codeAny (model P w) A (.call (.ref f) ⟨[u], ks.zip us⟩) (CR CX outer P w H s Q E) s
section
variable {CX : CXT} {P : Program} {w : World} {K : PySem.W.Frag} {mg : Str → Option Value} {base : Heap} {k : Nat} {f : Addr} {name qual : Str} {params : Arguments} {body : List Stmt} {scope : Scope} {N : List Str} {fd : FuncData}
theorem FnKw.mono {j : Nat} {ks : List Str} {sp : V → List V → Hp → VK → XK → Prop} (F : FnKw P w K mg base CX j f ks sp) (h : j ≤ k) : FnKw P w K mg base CX k f ks sp := fun A o s H u us v vs Q E hr => F A o s H u us v vs Q E (hr.mono h)
end
end L2
namespace L2
open PySem PySem.Spec PyProof.Rows StX
end L2
namespace FL
open PySem PySem.Spec PyProof.Rows L2
theorem DRs.zip {K : PySem.W.Frag} {ga : Ga} {ι : List Addr} {H : Hp} : ∀ {ks : List Key} {xs : List PV} {vs : List V}, VRs K ga ι H xs vs → DRs K ga ι H (ks.zip xs) (ks.zip vs)
  | [], _, _, _ => rfl
  | _ :: _, [], _, r => by
    cases (show _ = [] from r)
    rfl
  | k :: ks, x :: xs, _, ⟨y, r, e, h1, h2⟩ => by
    subst e
    exact ⟨y, _, rfl, h1, DRs.zip h2⟩
section
variable {X : Cx} {Z : Zs} {W : WX} {e o : Expr} {me mo : ME} {mk : MA} {pos apos cpos p : Pos} {kws : List Keyword} {ks : List Str}
def sNo : MS := fun _ _ => .no
theorem fss_no {b : List Stmt} : FSs Z X W b sNo := ⟨fun pins s σ H D I ⟨ι, L, τ, w, s', g⟩ => g.elim⟩
end
end FL
namespace L2
open PySem PySem.Spec PyProof.Rows
end L2
namespace FL
open PySem PySem.Spec PyProof.Rows L2
end FL
namespace FL
open PySem PySem.Spec PyProof.Rows L2
section
variable {K : PySem.W.Frag} {ga : Ga} {ι : List Addr} {H : Hp} {L : LH} {X : Cx}
/-- pairs (key, value) -/
def pairK : PV → Option (Key × PV)
  | .tup [k, y] => (toK k).map fun k => (k, y)
  | _ => none
def pairsK : List PV → Option (List (Key × PV))
  | [] => some []
  | x :: xs => match pairK x with
    | some p => (pairsK xs).map (p :: ·)
    | none => none
theorem pairK_at {x : PV} {v : V} {p : Key × PV} (r : VR K ga ι H x v) (h : pairK x = some p) : ∃ a u, v = .ref a ∧ SqT K H a [kV p.1, u] ∧ VR K ga ι H p.2 u := by
  unfold pairK at h
  split at h
  · obtain ⟨k, hk, rfl⟩ := Option.map_eq_some_iff.mp h
    obtain ⟨a, ys, rfl, h1, u, r', rfl, h2, y, r'', rfl, h3, h4⟩ := r
    cases (show r'' = [] from h4)
    rw [toK_ok h2 hk] at h1
    exact ⟨a, y, rfl, h1, h3⟩
  · cases h
theorem pairsK_at : ∀ {xs : List PV} {vs : List V} {kvs : List (Key × PV)}, VRs K ga ι H xs vs → pairsK xs = some kvs → ∃ ps l, vs = ps.map V.ref ∧ Paired (fun p kv => SqT K H p [kV kv.1, kv.2]) ps l ∧ DRs K ga ι H kvs l
  | [], _, _, r, h => by
    cases (show _ = [] from r)
    cases h
    exact ⟨[], [], rfl, .nil, rfl⟩
  | x :: xs, _, _, r, h => by
    obtain ⟨v, vs, rfl, r1, r2⟩ := r
    unfold pairsK at h
    split at h
    · rename_i p hp
      obtain ⟨kvs, hk, rfl⟩ := Option.map_eq_some_iff.mp h
      obtain ⟨a, u, rfl, h1, h2⟩ := pairK_at r1 hp
      obtain ⟨ps, l, rfl, h3, h4⟩ := pairsK_at r2 hk
      exact ⟨a :: ps, (p.1, u) :: l, rfl, .cons h1 h3, u, l, rfl, h2, h4⟩
    · cases h
def mergeD (kvs more : List (Key × PV)) : List (Key × PV) := more.foldl (fun acc kv => putD acc kv.1 kv.2) kvs
theorem DRs.mergeD {more : List (Key × PV)} : ∀ {lm : List (Key × V)} {kvs : List (Key × PV)} {l : List (Key × V)}, DRs K ga ι H more lm → DRs K ga ι H kvs l → DRs K ga ι H (FL.mergeD kvs more) (mergeK l lm) := by
  induction more with
  | nil => intro lm kvs l h r; cases (show _ = [] from h); exact r
  | cons p ps ih =>
    intro lm kvs l h r
    obtain ⟨v, lm, rfl, h1, h2⟩ := h
    show DRs K ga ι H (FL.mergeD (putD kvs p.1 p.2) ps) (mergeK (putK l p.1 v) lm)
    exact ih h2 (DRs.put h1 r)
theorem new_dct {W : WX} {σ : L2.St} {kvs : List (Key × PV)} {l : List (Key × V)} {p : Addr} {P : V → Hp → Prop} (w : Wd K ga ι L H) (r : DRs K ga ι H kvs l) (g : gd K ga W (VR K ga) (.ok (.obj L.length) (L ++ [.dct kvs])) ι H σ fun _ _ _ v H' => P v H') (hp : H p = none) : P (.ref p) (upd H p (.dK l)) := by
  have e := Ext.alloc (K := K) (ι := ι) (o := .dK l) hp
  exact g _ _ (.ref p) e (w.alloc hp ⟨l, rfl, r.up e⟩) ⟨p, by rw [← w.len]; simp, rfl⟩
def dctX (x : PV) (L : LH) : Option (List (Key × PV)) := match x with
  | .obj n => (L[n]?).bind dctOf
  | _ => none
def dictF (xs : List PV) (L : LH) : R PV := match xs with
  | [x] => (match dctX x L with
    | some kvs => .ok (.obj L.length) (L ++ [.dct kvs])
    | none => (match x with
      | .obj n => (match L[n]? with
        | some (.lst ys) => (match pairsK ys with
          | some kvs => .ok (.obj L.length) (L ++ [.dct (mergeD [] kvs)])
          | none => .no)
        | _ => .no)
      | _ => .no))
  | _ => .no
def rDict (K : PySem.W.Frag) : List V → Hp → VK → Prop := fun xs H Q => (∃ (a : Addr) (ps : List Addr) (kvs : List (Key × V)), xs = [.ref a] ∧ SqL K H a (ps.map V.ref) ∧ Paired (fun p kv => SqT K H p [kV kv.1, kv.2]) ps kvs ∧
    ∀ p, H p = none → Q (.ref p) (upd H p (.dK (mergeK [] kvs)))) ∨ (∃ (a : Addr) (kvs : List (Key × V)), xs = [.ref a] ∧ Rd H a (.dK kvs) ∧ ∀ p, H p = none → Q (.ref p) (upd H p (.dK kvs)))
theorem cr_dict (hc : X.calm = true) : CallR X (.type "dict") (rDict X.K) := (call_dictP hc).or call_dictD
theorem dictL : CaL K ga dictF (rDict K) := by
  intro W ι L H σ xs us Q w r g
  unfold dictF at g
  split at g
  · rename_i x
    obtain ⟨u, rfl, r1⟩ := r.one
    split at g
    · rename_i kvs hd
      unfold dctX at hd
      split at hd
      · rename_i n
        obtain ⟨o, ho, hd⟩ := Option.bind_eq_some_iff.mp hd
        obtain ⟨a, l, rfl, hn, h1, h2⟩ := dct_rd w r1 ho hd
        exact .inr ⟨a, l, rfl, h1, fun p hp => new_dct w h2 g hp⟩
      · cases hd
    · split at g
      · split at g
        · rename_i ys hl
          split at g
          · rename_i kvs hk
            obtain ⟨a, vs, rfl, hn, h1, h2⟩ := lst_at w r1 hl
            obtain ⟨ps, l, rfl, h3, h4⟩ := pairsK_at h2 hk
            exact .inl ⟨a, ps, l, rfl, SqL.of h1, h3, fun p hp => new_dct w (DRs.mergeD h4 (show DRs K ga ι H [] [] from rfl)) g hp⟩
          · exact g.elim
        · exact g.elim
      · exact g.elim
  · exact g.elim
def clearDF (x : PV) (xs : List PV) (L : LH) : R PV := match x, xs with
  | .obj n, [] => (match L[n]? with
    | some (.dct _) => .ok .non (L.set n (.dct []))
    | _ => .no)
  | _, _ => .no
theorem clearDL : MtL K ga clearDF rDClear := by
  intro W ι L H σ x u xs us Q w rx rs g
  unfold clearDF at g
  split at g
  · rename_i n
    split at g
    · rename_i ys hl
      obtain ⟨a, vs, rfl, hn, h1, h2⟩ := dct_at w rx hl
      cases (show us = [] from rs)
      have e := Ext.set (K := K) (o := .dK []) hn h1 True.intro
      exact ⟨a, vs, rfl, rfl, h1, g.ok' e (w.set hn h1 True.intro ⟨_, rfl, rfl⟩) vrn⟩
    · exact g.elim
  · exact g.elim
def insI (x : Int) : List Int → List Int
  | [] => [x]
  | y :: ys => if x ≤ y then x :: y :: ys else y :: insI x ys
def sortI : List Int → List Int
  | [] => []
  | x :: xs => insI x (sortI xs)
theorem insI_perm (x : Int) : ∀ ys : List Int, (insI x ys).Perm (x :: ys)
  | [] => .refl _
  | y :: ys => by
    unfold insI
    split
    · exact .refl _
    · exact ((insI_perm x ys).cons y).trans (.swap x y ys)
theorem sortI_perm : ∀ xs : List Int, (sortI xs).Perm xs
  | [] => .refl _
  | x :: xs => (insI_perm x _).trans ((sortI_perm xs).cons x)
theorem insI_pw (x : Int) : ∀ {ys : List Int}, ys.Pairwise (· ≤ ·) → (insI x ys).Pairwise (· ≤ ·)
  | [], _ => by simp [insI]
  | y :: ys, h => by
    obtain ⟨h1, h2⟩ := List.pairwise_cons.mp h
    unfold insI
    split
    · rename_i hx
      refine List.pairwise_cons.mpr ⟨fun z hz => ?_, h⟩
      rcases List.mem_cons.mp hz with e | hz
      · rw [e]; exact hx
      · exact Int.le_trans hx (h1 z hz)
    · rename_i hx
      refine List.pairwise_cons.mpr ⟨fun z hz => ?_, insI_pw x h2⟩
      rcases List.mem_cons.mp ((insI_perm x ys).mem_iff.mp hz) with e | hz
      · rw [e]; omega
      · exact h1 z hz
theorem sortI_pw : ∀ xs : List Int, (sortI xs).Pairwise (· ≤ ·)
  | [] => .nil
  | x :: xs => insI_pw x (sortI_pw xs)
theorem sortI_eq {xs ys : List Int} (p : ys.Perm xs) (h : ys.Pairwise (· ≤ ·)) : ys = sortI xs :=
  List.Perm.eq_of_pairwise (fun x y _ _ h1 h2 => Int.le_antisymm h1 h2) h (sortI_pw xs) (p.trans (sortI_perm xs).symm)
/-- the keys, if all are ints -/
def keysI : List (Key × PV) → Option (List Int)
  | [] => some []
  | (.inl i, _) :: r => (keysI r).map (i :: ·)
  | (.inr _, _) :: _ => none
theorem keysI_at : ∀ {kvs : List (Key × PV)} {l : List (Key × V)} {ks : List Int}, DRs K ga ι H kvs l → keysI kvs = some ks → l.map (·.1) = ks.map Sum.inl
  | [], _, _, h, e => by cases (show _ = [] from h); cases e; rfl
  | (.inl i, x) :: r, _, _, h, e => by
    obtain ⟨v, l, rfl, h1, h2⟩ := h
    obtain ⟨ks, hk, rfl⟩ := Option.map_eq_some_iff.mp e
    simp only [List.map_cons, keysI_at h2 hk]
  | (.inr _, _) :: _, _, _, _, e => by cases e
theorem vrs_ints : ∀ ks : List Int, VRs K ga ι H (ks.map PV.int) (ks.map V.int)
  | [] => rfl
  | k :: ks => ⟨_, _, rfl, vri, vrs_ints ks⟩
theorem new_lstB {W : WX} {σ : L2.St} {xs : List PV} {l : List V} {p : Addr} {P : V → Hp → Prop} (w : Wd K ga ι L H) (r : VRs K ga ι H xs l) (g : gd K ga W (VR K ga) (.ok (.obj L.length) (L ++ [.lst xs])) ι H σ fun _ _ _ v H' => P v H') (hp : H p = none) : P (.ref p) (upd H p (.lst l)) := by
  have e := Ext.alloc (K := K) (ι := ι) (o := .lst l) hp
  exact g _ _ (.ref p) e (w.alloc hp ⟨l, rfl, r.up e⟩) ⟨p, by rw [← w.len]; simp, rfl⟩
def sortedDF (xs : List PV) (L : LH) : R PV := match xs with
  | [x] => (match dctX x L with
    | some kvs => (match keysI kvs with
      | some ks => if ks.length < 64 then .ok (.obj L.length) (L ++ [.lst ((sortI ks).map .int)]) else .no
      | none => .no)
    | none => .no)
  | _ => .no
def rSortDI : List V → Hp → VK → Prop := fun xs H Q => ∃ (a : Addr) (kvs : List (Key × V)) (ks : List Int), xs = [.ref a] ∧ Rd H a (.dK kvs) ∧ kvs.map (·.1) = ks.map Sum.inl ∧ ks.length < 64 ∧
    ∀ (ys : List Int) (p : Addr), ys.Perm ks → ys.Pairwise (· ≤ ·) → H p = none → Q (.ref p) (upd H p (.lst (ys.map V.int)))
theorem cr_sortDI (hc : X.calm = true) : CallR X (.builtin "sorted") rSortDI := call_sortedDI hc
theorem sortedDL : CaL K ga sortedDF rSortDI := by
  intro W ι L H σ xs us Q w r g
  unfold sortedDF at g
  split at g
  · rename_i x
    obtain ⟨u, rfl, r1⟩ := r.one
    split at g
    · rename_i kvs hd
      unfold dctX at hd
      split at hd
      · rename_i n
        obtain ⟨o, ho, hd⟩ := Option.bind_eq_some_iff.mp hd
        obtain ⟨a, l, rfl, hn, h1, h2⟩ := dct_rd w r1 ho hd
        split at g
        · rename_i ks hk
          split at g
          · rename_i hz
            refine ⟨a, l, ks, rfl, h1, keysI_at h2 hk, hz, fun ys p hp hs hf => ?_⟩
            rw [sortI_eq hp hs]
            exact new_lstB w (vrs_ints _) g hf
          · exact g.elim
        · exact g.elim
      · cases hd
    · exact g.elim
  · exact g.elim
end
end FL
namespace FL
open PySem PySem.Spec PyProof.Rows L2
theorem slot_dict_values_iter : Slot "dict_values" "__iter__" "dict_values.__iter__" :=
  Slot.of (T := "dict_values") (name := "__iter__") (owner := "dict_values") (n := "__iter__") (by rw [typeLookup_type, builtinLookup_eq_fast]; kernel_rfl) (by decide +kernel) (by decide +kernel) (by decide +kernel) (.inl (by decide +kernel)) (by rw [isSubtype_type]; kernel_rfl)
section
variable {X : Cx} {Z : Zs} {W : WX} {e : Expr} {te : TE} {p apos cpos pos : Pos} {es : List Expr} {t : TA} {me : ME} {mr : MA} {ga : Ga} {f : Str}
def tStarV (te : TE) (t : TA) : TA := fun σ H Q => te σ H fun x H1 => ∃ (d : Addr) (kvs : List (Key × V)), x = .ref d ∧ H1 d = some (.dK kvs) ∧ t σ H1 fun ys H2 => Q (kvs.map (·.2) ++ ys) H2
theorem pa_starV (hc : X.calm = true) (he : PE X e te) (hr : PA X es t) (hbase : attributeBase e "values" X.env (eval e X.env) = eval e X.env := by rfl) (hline : (apos.endLine == cpos.line) = true := by rfl)
    (hs : starEach (.Starred (.Call (.Attribute e "values" apos) [] [] cpos) p :: es) X.env = (true, eval (.Call (.Attribute e "values" apos) [] [] cpos) X.env) :: starEach es X.env := by rfl) : PA X (.Starred (.Call (.Attribute e "values" apos) [] [] cpos) p :: es) (tStarV te t) := by
  refine ⟨fun pos pins s σ H Q I h => ?_⟩
  refine PySem.W.items_star ?_ hs
  refine wpAny_Call_method (T := "dict") (id := "dict.values") hbase rfl hline F.plainAttrs_dict F.slot_dict_values F.type_dict_values (thn (he.run pins s σ H _ I h) fun u s1 ⟨x, H1, I1, rx, d, kvs, ex, hd, q⟩ => ?_)
  subst ex
  obtain rfl : u = Value.ref d := rx
  obtain ⟨hz, hs0, vs, kv, hdo⟩ := I1.hok d _ hd
  obtain ⟨ep, hat⟩ := hdo.dictAt
  have lk : kvs.length = vs.length := Paired.length kv
  have I2 : Inv X pins σ H1 { s1 with heap := s1.heap.push { cls := .type "dict_values", data := .fields #[.ref d] } } := I1.kept (t' := s1.toks) fun b ob q => Heap.get?_push_of_some _ q
  refine ⟨hdo.typeIs, hdo.mapOf.noDict, ?_⟩
  show wpAny _ _ (callWith cpos (.builtin "dict.values") [.ref d] [] []) _ X.xe s1
  refine method_meetsIn F.slot_dict_values F.entry_dict_values rfl (PySem.evalArgs_none ⟨rfl, hdo.typeIs, F.args_dict_values_1 _, _, meets_dict_values (mixKind X.prog X.w) d hs0, ⟨vs, hdo⟩, ?_⟩)
  have hv : (s1.heap.push { cls := .type "dict_values", data := .fields #[.ref d] }).IsValuesView s1.heap.objs.size d := ⟨_, Heap.get?_push_size _ rfl, rfl, rfl⟩
  have hT : Shared.TypeIs { s1 with heap := s1.heap.push { cls := .type "dict_values", data := .fields #[.ref d] } } (.ref s1.heap.objs.size) "dict_values" := ⟨_, Heap.get?_push_size _ rfl, rfl⟩
  unfold PySem.W.StarOf notIterableAtAll
  refine wpAny_bind (wpAny_specialOf hT slot_dict_values_iter.lookup (wpAny_pure ⟨rfl, ?_⟩))
  refine PySem.W.kdu_collect (PySem.W.kdl_values (knd := mixKind X.prog X.w) (kvs := vs) (ep := ep) (d := d) (r := s1.heap.objs.size)) (I1.ok.hd hc) ⟨hv, hat.push _⟩ (by rw [← lk]; exact hz) fun h' tk acc hk hacc => ?_
  have hvs : Vals (kvs.map (·.2)) acc.toList := by
    refine vals_of_idx _ _ (by rw [List.length_map, Array.length_toList, hacc.1]; exact lk.symm) fun j u e => ?_
    obtain ⟨k, hk'⟩ := hacc.2 j u (by rw [← Array.getElem?_toList]; exact e)
    obtain ⟨x, h1, h2⟩ := KV.at' kv hk'
    exact ⟨x, by rw [List.getElem?_map, h1]; rfl, h2⟩
  have J : Inv X pins σ H1 { s1 with heap := h', toks := tk } := I2.kept (t' := tk) hk
  exact thn (hr.run pos pins _ σ H1 _ J q) fun ws s3 ⟨ys, H3, I3, r3, q3⟩ => ⟨_, H3, I3, hvs.append r3, q3⟩
def aSV (md : ME) (mr : MA) : MA := fun τ L => (md τ L).bind fun x L1 => match x with
  | .obj n => (match L1[n]? with
    | some (.dct kvs) => (mr τ L1).bind fun ys L2 => .ok ((kvs.map fun kv => kv.2) ++ ys) L2
    | _ => .no)
  | _ => .no
theorem fa_starV (hc : X.calm = true) (h : FE Z X W e me) (hr : FA Z X W es mr) (hbase : attributeBase e "values" X.env (eval e X.env) = eval e X.env := by rfl) (hline : (apos.endLine == cpos.line) = true := by rfl)
    (hs : starEach (.Starred (.Call (.Attribute e "values" apos) [] [] cpos) p :: es) X.env = (true, eval (.Call (.Attribute e "values" apos) [] [] cpos) X.env) :: starEach es X.env := by rfl) : FA Z X W (.Starred (.Call (.Attribute e "values" apos) [] [] cpos) p :: es) (aSV me mr) :=
  PA.imp (pa_starV hc h hr hbase hline hs) fun σ H Q h => tM.bind h fun τ x L1 ι1 u H1 w1 s1 r1 g1 => by
    split at g1
    · split at g1
      · rename_i hl
        obtain ⟨a, l, rfl, hn, h1, h2⟩ := dct_at w1 r1 hl
        exact ⟨a, l, rfl, h1, ι1, L1, τ, w1, s1, gd.bind g1 fun ys L2 ι2 us H2 _ e2 w2 r2 g2 => g2.ok w2 ((h2.vals.up e2).app r2)⟩
      · exact g1.elim
    · exact g1.elim
theorem prpS {C : Str} {p g : Addr} {fd : FuncData} {ps : List Str} {k k0 : Nat} {m : Fn} (c : SlX.SCls X.K (ga C)) (hp : PropOf X.K (ga C) f p g) (F : FnM X.prog X.w X.K X.mg X.base ga k g fd ps m) (hb : Binds X.K fd ps []) (hgd : X.A.guards = some []) (hr : Room k0 X.A)
    (hk : k + 1 ≤ k0 := by first | decide | omega | (simp only [Nat.add_eq]; omega)) (hn : ps.length = 1 := by rfl) : Prp X ga C f m := ⟨.ofS c, ⟨p, g, k, fd, ps, hp, F, hr.mono hk, hb, hn⟩, hgd⟩
theorem mtS {C : Str} {f' : Addr} {n : Nat} {m : Fn} (c : SlX.SCls X.K (ga C)) (h : Meth X.K (ga C) f f') (F : Def X ga f' n m) : Mt X ga C f m := ⟨.ofS c, f', n, h, F⟩
end
end FL
namespace L2
open PySem PySem.Spec PyProof.Rows
section
variable {prog : Program} {w : World} {K : Type} [DecidableEq K] {knd : KeyKind prog w K} {A : Around} {E : Value → Shared → Prop} {s : Shared}
/-- the first pair of a dict, its key carried by value -/
theorem odd_set {d : Addr} {o : Obj} {ep : Nat} {k : K} {key v : Value} {Q : Unit → Shared → Prop} (hkey : knd.is k key = true) (ho : s.heap.get? d = some o) (hc : o.ExactDict) (hd : o.data = .dict #[] ep)
    (hQ : ∀ h' o', h'.get? d = some o' → o'.ExactDict → o'.data = .dict #[⟨knd.hash k, key, v⟩] (ep + 1) → Heap.SameBut d s.heap h' → Q () { s with heap := h', toks := s.toks + 1 }) : wpAny (model prog w) A (dictSet d key v) Q E s := by
  unfold dictSet
  try with_reducible refine wpAny_holding ?_
  refine wpAny_bind (knd.pyHash hkey ?_)
  unfold dictSetHashed
  try with_reducible refine wpAny_holding ?_
  refine wpAny_bind (wpAny_dictFind_of (s := { s with toks := s.toks + 1 }) hkey ho hd (fun e he => by simp at he) ?_)
  cases hi : (#[] : Array DictEntry).findIdx? fun e => knd.is k e.key with
  | some i => simp at hi
  | none =>
    refine wpAny_bind (wpAny_rule (wpAny_updateDictKeys (hz := Nat.zero_le _) (s := { s with toks := s.toks + 1 }) ho hd (hQ _ _ (Heap.get?_update_self _ ho (Obj.isFreed_of_dict (Obj.data_mapDictKeys hd _))) (hc.mapDictKeys _) ?_ (Heap.SameBut.update ..))))
    rw [Obj.data_mapDictKeys hd _]
    rfl
/-- the display {k: v}: the object, exactly; setd: how the pair is stored -/
theorem odd_disp {env : Env} {ke ve : Expr} {pos : Pos} {Q : Value → Shared → Prop}
    (h : wpAny (model prog w) A (evalPairs (pairTrees [some ke] [ve] env pos)) (fun vs s₁ => ∃ key v, vs = [(key, v)] ∧ wpAny (model prog w) A (dictSet s.heap.objs.size key v) (fun _ s' => Q (.ref s.heap.objs.size) s') E s₁) E
      { s with heap := s.heap.push { cls := .type "dict", data := .dict #[] } }) :
    wpAny (model prog w) A (eval (.Dict [some ke] [ve] pos) env) Q E s := by
  rw [arm_eval_Dict, zip_pairTrees [some ke] [ve] env pos rfl rfl, dictDisplay_pairs _ (by intro e; cases e) (by show 1 < 17; decide)]
  refine wpAny_bind (wpAny_standAt (wpAny_bind ?_))
  unfold subDict
  refine wpAny_bind (wpAny_alloc ?_)
  refine wpAny_bind (wpAny_holding ?_)
  rw [if_pos (show (pairTrees [some ke] [ve] env pos).length ≤ 15 by show 1 ≤ 15; decide)]
  refine wpAny_bind (wpAny_mono h (fun vs s₁ h₁ => ?_) fun _ _ e => e)
  obtain ⟨key, v, rfl, h₂⟩ := h₁
  refine wpAny_holding ?_
  rw [List.forIn_cons]
  refine wpAny_bind (wpAny_bind (wpAny_bind (wpAny_mono h₂ (fun _ s' hq => wpAny_pure ?_) fun _ _ e => e)))
  dsimp only
  rw [List.forIn_nil]
  exact wpAny_pure (wpAny_pure (wpAny_pure (wpAny_pure hq)))
end
/-- a key carried by value that is no int and no text -/
def leafV : V → Option Leaf
  | .non => some .none
  | .bl true => some (.num 1)
  | .bl false => some (.num 0)
  | _ => none
theorem leafV_is {prog : Program} {w : World} {x : V} {u : Value} {k : Leaf} (r : RelV x u) (h : leafV x = some k) : (leafKind prog w).is k u = true := by
  unfold leafV at h
  split at h
  · cases h; cases r; rfl
  · cases h; cases r; rfl
  · cases h; cases r; rfl
  · cases h
def tOddD (tk tv : TE) : TE := fun σ H Q => ∀ p, H p = none → tPairs [(tk, tv)] σ (upd H p (.dK [])) fun ps H2 => ∃ x y, ps = [(x, y)] ∧ H2 p = some (.dK []) ∧ (leafV x).isSome = true ∧ ∀ ob, FL.OddOb p ob x y → Q (.ref p) (upd H2 p (.frz ob (.own p)))
theorem pe_odd {X : Cx} {pos : Pos} {ke ve : Expr} {tk tv : TE} (hk : PE X ke tk) (hv : PE X ve tv) : PE X (.Dict [some ke] [ve] pos) (tOddD tk tv) := by
  refine ⟨fun pins s σ H Q I q => ?_⟩
  have hn := I.hok.fresh (Nat.le_refl s.heap.objs.size)
  have I1 := I.laid (a := s.heap.objs.size) (o := .dK []) (h' := s.heap.push { cls := .type "dict", data := .dict #[] }) (t' := s.toks) (fun _ _ q => Heap.get?_push_of_some _ q) (Nat.le_refl _) (dk_empty s.heap I.big)
  have hp : PPs X pos [some ke] [ve] [(tk, tv)] := pps_cons hk hv pps_nil
  refine odd_disp (thn (hp.run pins _ σ _ _ I1 (q _ hn)) fun vs s2 ⟨ps, H2, I2, rel, x, y, ex, e, hl, q2⟩ => ?_)
  subst ex
  cases rel with
  | @cons a b as bs r t =>
      cases t
      obtain ⟨ku, vu⟩ := b
      obtain ⟨k, hl⟩ := Option.isSome_iff_exists.mp hl
      obtain ⟨z, hd, vs0, r0, dd⟩ := dk_of I2.hok e
      cases r0
      obtain ⟨o, es, ep, ho, hc, hda, hka, hpa, _⟩ := dd
      have e0 : es = #[] := by
        have hlen := hpa.length
        rw [List.length_nil, Array.length_toList] at hlen
        exact Array.eq_empty_of_size_eq_zero hlen
      subst e0
      refine ⟨ku, vu, rfl, odd_set (knd := leafKind X.prog X.w) (leafV_is r.1 hl) ho hc hda fun h' o' h1 h2 h3 hs => ?_⟩
      exact ⟨.ref s.heap.objs.size, _, d_write (ob := .frz o' (.own s.heap.objs.size)) I2 (by rw [e]; exact True.intro) hs ⟨o', h1⟩ ⟨h1, o', h1⟩, rfl, q2 o' ⟨hd, h2, _, ku, vu, _, h3, r.1, r.2⟩⟩
end L2
namespace FL
open PySem PySem.Spec PyProof.Rows L2
section
variable {X : Cx} {Z : Zs} {W : WX} {ke ve : Expr} {mk mv : ME} {pos : Pos}
def oddP : PV → Bool
  | .non => true
  | .bl _ => true
  | _ => false
def eOdd (mk mv : ME) : ME := fun τ L => (mk τ L).bind fun x L1 => (mv τ L1).bind fun y L2 => if oddP x = true then .ok (.obj L2.length) (L2 ++ [.odd x y]) else .no
theorem oddP_leaf {K : PySem.W.Frag} {ga : Ga} {ι : List Addr} {H : Hp} {x : PV} {u : V} (r : VR K ga ι H x u) (h : oddP x = true) : (leafV u).isSome = true := by
  unfold oddP at h
  split at h
  · rw [r.n]; rfl
  · rename_i b
    rw [r.b]; cases b <;> rfl
  · cases h
theorem fe_odd (hk : FE Z X W ke mk) (hv : FE Z X W ve mv) : FE Z X W (.Dict [some ke] [ve] pos) (eOdd mk mv) := PE.imp (pe_odd hk hv) fun σ H Q ⟨ι, L, τ, w, s, g⟩ p hp => by
  have hpi : p ∉ ι := fun z => by
    obtain ⟨ho, q1, _⟩ := w.some z
    rw [hp] at q1; cases q1
  have e0 := Ext.new (K := X.K) (ι := ι) (o := .dK []) hp
  refine ⟨ι, L, τ, w.new hp, s.up e0, ?_⟩
  unfold eOdd at g
  cases hq : mk τ L with
  | no => rw [hq] at g; exact g
  | ex c fs L1 =>
    rw [hq] at g
    exact gd.ext (show gd X.K Z.f W (VR X.K Z.f) (.ex c fs L1) ι H σ _ from g) e0
  | ok x L1 =>
    rw [hq] at g
    intro ι1 H1 u e1 w1 r1
    refine ⟨ι1, L1, τ, w1, (s.up e0).up e1, ?_⟩
    have g : gd X.K Z.f W (VR X.K Z.f) ((mv τ L1).bind fun y L2 => if oddP x = true then .ok (.obj L2.length) (L2 ++ [.odd x y]) else .no) ι H σ fun _ _ _ v H' => Q v H' := g
    cases hq2 : mv τ L1 with
    | no => rw [hq2] at g; exact g
    | ex c fs L2 =>
      rw [hq2] at g
      exact gd.ext (show gd X.K Z.f W (VR X.K Z.f) (.ex c fs L2) ι H σ _ from g) (e0.trans e1)
    | ok y L2 =>
      rw [hq2] at g
      intro ι2 H2 v e2 w2 r2
      have g : gd X.K Z.f W (VR X.K Z.f) (if oddP x = true then .ok (.obj L2.length) (L2 ++ [.odd x y]) else .no) ι H σ fun _ _ _ v H' => Q v H' := g
      split at g
      · rename_i hx
        obtain ⟨d2, n2⟩ := (e1.trans e2).keep upd_same hpi
        refine ⟨u, v, rfl, d2, oddP_leaf r1 hx, fun ob hob => ?_⟩
        have up := Up.tmp (K := X.K) (ι := ι2) (o := .frz ob (.own p)) d2 True.intro
        have wt := w2.tmp (o := .frz ob (.own p)) d2 True.intro n2
        have et := ((e0.trans e1).trans e2).tmp (o := .frz ob (.own p)) (.of hp) d2 True.intro
        have wA := wt.adopt (o := .odd x y) upd_same n2 ⟨ob, u, v, rfl, hob, u, [v], rfl, (r1.up e2).upU up, v, [], rfl, r2.upU up, rfl⟩
        exact g _ _ (.ref p) (et.adopt (.of hp)) wA ⟨p, by rw [← w2.len]; simp, rfl⟩
      · exact g.elim
/-- {k: v}, the key an int or a text -/
def eD1 (mk mv : ME) : ME := fun τ L => (mk τ L).bind fun x L1 => (mv τ L1).bind fun y L2 => match toK x with
  | some k => .ok (.obj L2.length) (L2 ++ [.dct (mergeD [] [(k, y)])])
  | none => .no
theorem fe_disp1 (hk : FE Z X W ke mk) (hv : FE Z X W ve mv) : FE Z X W (.Dict [some ke] [ve] pos) (eD1 mk mv) := PE.imp (pe_disp (pps_cons hk hv pps_nil) rfl rfl (fun z => nomatch z) (by show 1 ≤ 15; decide)) fun σ H Q ⟨ι, L, τ, w, s, g⟩ p hp => by
  have hpi : p ∉ ι := fun z => by
    obtain ⟨ho, q1, _⟩ := w.some z
    rw [hp] at q1; cases q1
  have e0 := Ext.new (K := X.K) (ι := ι) (o := .dK []) hp
  refine ⟨ι, L, τ, w.new hp, s.up e0, ?_⟩
  unfold eD1 at g
  cases hq : mk τ L with
  | no => rw [hq] at g; exact g
  | ex c fs L1 =>
    rw [hq] at g
    exact gd.ext (show gd X.K Z.f W (VR X.K Z.f) (.ex c fs L1) ι H σ _ from g) e0
  | ok x L1 =>
    rw [hq] at g
    intro ι1 H1 u e1 w1 r1
    refine ⟨ι1, L1, τ, w1, (s.up e0).up e1, ?_⟩
    have g : gd X.K Z.f W (VR X.K Z.f) ((mv τ L1).bind fun y L2 => match toK x with
      | some k => .ok (.obj L2.length) (L2 ++ [.dct (mergeD [] [(k, y)])])
      | none => .no) ι H σ fun _ _ _ v H' => Q v H' := g
    cases hq2 : mv τ L1 with
    | no => rw [hq2] at g; exact g
    | ex c fs L2 =>
      rw [hq2] at g
      exact gd.ext (show gd X.K Z.f W (VR X.K Z.f) (.ex c fs L2) ι H σ _ from g) (e0.trans e1)
    | ok y L2 =>
      rw [hq2] at g
      intro ι2 H2 v e2 w2 r2
      have g : gd X.K Z.f W (VR X.K Z.f) (match toK x with
        | some k => .ok (.obj L2.length) (L2 ++ [.dct (mergeD [] [(k, y)])])
        | none => .no) ι H σ fun _ _ _ v H' => Q v H' := g
      split at g
      · rename_i k hx
        obtain ⟨d2, n2⟩ := (e1.trans e2).keep upd_same hpi
        have ek := toK_ok r1 hx
        refine ⟨d2, [(k, v)], by rw [ek]; rfl, by show 1 ≤ 15; decide, ?_⟩
        have up := Up.tmp (K := X.K) (ι := ι2) (o := .dK (mergeK [] [(k, v)])) d2 True.intro
        have wt := w2.tmp (o := .dK (mergeK [] [(k, v)])) d2 True.intro n2
        have et := ((e0.trans e1).trans e2).tmp (o := .dK (mergeK [] [(k, v)])) (.of hp) d2 True.intro
        have wA := wt.adopt (o := .dct (mergeD [] [(k, y)])) upd_same n2 ⟨_, rfl, DRs.mergeD (show DRs X.K Z.f ι2 _ [(k, y)] [(k, v)] from ⟨v, [], rfl, r2.upU up, rfl⟩) (show DRs X.K Z.f ι2 _ [] [] from rfl)⟩
        exact g _ _ (.ref p) (et.adopt (.of hp)) wA ⟨p, by rw [← w2.len]; simp, rfl⟩
      · exact g.elim
end
end FL
namespace L2
open PySem PySem.Spec PyProof.Rows
def tOddT (K : PySem.W.Frag) (tk tv : TE) : TE := fun σ H Q => ∀ p, H p = none → tPairs [(tk, tv)] σ (upd H p (.dK [])) fun ps H2 => ∃ x y, ps = [(x, y)] ∧ H2 p = some (.dK []) ∧ (∃ a i, x = .ref a ∧ SqT K H2 a [.int i]) ∧ ∀ ob, FL.OddOb p ob x y → Q (.ref p) (upd H2 p (.frz ob (.own p)))
theorem pe_oddT {X : Cx} {pos : Pos} {ke ve : Expr} {tk tv : TE} (hu : X.A.units + 64 < cLine) (hk : PE X ke tk) (hv : PE X ve tv) : PE X (.Dict [some ke] [ve] pos) (tOddT X.K tk tv) := by
  refine ⟨fun pins s σ H Q I q => ?_⟩
  have hn := I.hok.fresh (Nat.le_refl s.heap.objs.size)
  have I1 := I.laid (a := s.heap.objs.size) (o := .dK []) (h' := s.heap.push { cls := .type "dict", data := .dict #[] }) (t' := s.toks) (fun _ _ q => Heap.get?_push_of_some _ q) (Nat.le_refl _) (dk_empty s.heap I.big)
  have hp : PPs X pos [some ke] [ve] [(tk, tv)] := pps_cons hk hv pps_nil
  refine odd_disp (thn (hp.run pins _ σ _ _ I1 (q _ hn)) fun vs s2 ⟨ps, H2, I2, rel, x, y, ex, e, ⟨a, i, hx, hq⟩, q2⟩ => ?_)
  subst ex hx
  cases rel with
  | @cons _ b as bs r t =>
      cases t
      obtain ⟨ku, vu⟩ := b
      obtain ⟨rk, rv⟩ := r
      obtain rfl : ku = Value.ref a := rk
      obtain ⟨z, hd, vs0, r0, dd⟩ := dk_of I2.hok e
      cases r0
      obtain ⟨o, es, ep, ho, hc, hda, hka, hpa, _⟩ := dd
      have e0 : es = #[] := by
        have hlen := hpa.length
        rw [List.length_nil, Array.length_toList] at hlen
        exact Array.eq_empty_of_size_eq_zero hlen
      subst e0
      obtain ⟨its, rvs, ⟨ot, g1, g2, n, g3⟩, _⟩ := I2.tuple hq
      obtain ⟨ui, rfl, ri⟩ := rvs.one
      obtain ⟨t, rfl⟩ := (show ∃ t, ui = Value.int i t from ri)
      have isk : (nestedKind X.prog X.w).is s2.heap (.tup [.num i]) a := ⟨NestedIs.tup g1 g2 g3 (.cons (.int i t) .nil), by show 1 ≤ 8; decide⟩
      have hm : s2.heap.DictOfH (nestedKind X.prog X.w) s.heap.objs.size [] := ⟨o, #[], ep, ho, hc, hda, rfl, (fun _ h => nomatch h), List.nodup_nil⟩
      refine ⟨.ref a, vu, rfl, wpAny_dictSet_heap (by show X.A.units + 8 < cLine; omega) isk hm (fun h' hm' hs => ?_) (Nat.zero_le _)⟩
      obtain ⟨o', es', ep', h1, h2, h3, h4, _, _⟩ := hm'
      have e1 : es' = #[⟨(nestedKind X.prog X.w).hash (.tup [.num i]), .ref a, vu⟩] := Array.ext' (by rw [h4]; rfl)
      subst e1
      exact ⟨.ref s.heap.objs.size, _, d_write (ob := .frz o' (.own s.heap.objs.size)) I2 (by rw [e]; exact True.intro) hs ⟨o', h1⟩ ⟨h1, o', h1⟩, rfl, q2 o' ⟨hd, h2, _, .ref a, vu, _, h3, rfl, rv⟩⟩
end L2
namespace FL
open PySem PySem.Spec PyProof.Rows L2
section
variable {X : Cx} {Z : Zs} {W : WX} {ke ve : Expr} {mk mv : ME} {pos : Pos}
def oddT : PV → Bool
  | .tup [.int _] => true
  | _ => false
def eOddT (mk mv : ME) : ME := fun τ L => (mk τ L).bind fun x L1 => (mv τ L1).bind fun y L2 => if oddT x = true then .ok (.obj L2.length) (L2 ++ [.odd x y]) else .no
theorem oddT_at {K : PySem.W.Frag} {ga : Ga} {ι : List Addr} {H : Hp} {x : PV} {u : V} (r : VR K ga ι H x u) (h : oddT x = true) : ∃ a i, u = .ref a ∧ SqT K H a [.int i] := by
  unfold oddT at h
  split at h
  · rename_i i
    obtain ⟨a, ys, rfl, h1, v, r', rfl, h2, h3⟩ := r
    cases (show r' = [] from h3)
    rw [h2.i] at h1
    exact ⟨a, i, rfl, h1⟩
  · cases h
theorem fe_oddT (hu : X.A.units + 64 < cLine) (hk : FE Z X W ke mk) (hv : FE Z X W ve mv) : FE Z X W (.Dict [some ke] [ve] pos) (eOddT mk mv) := PE.imp (pe_oddT hu hk hv) fun σ H Q ⟨ι, L, τ, w, s, g⟩ p hp => by
  have hpi : p ∉ ι := fun z => by
    obtain ⟨ho, q1, _⟩ := w.some z
    rw [hp] at q1; cases q1
  have e0 := Ext.new (K := X.K) (ι := ι) (o := .dK []) hp
  refine ⟨ι, L, τ, w.new hp, s.up e0, ?_⟩
  unfold eOddT at g
  cases hq : mk τ L with
  | no => rw [hq] at g; exact g
  | ex c fs L1 =>
    rw [hq] at g
    exact gd.ext (show gd X.K Z.f W (VR X.K Z.f) (.ex c fs L1) ι H σ _ from g) e0
  | ok x L1 =>
    rw [hq] at g
    intro ι1 H1 u e1 w1 r1
    refine ⟨ι1, L1, τ, w1, (s.up e0).up e1, ?_⟩
    have g : gd X.K Z.f W (VR X.K Z.f) ((mv τ L1).bind fun y L2 => if oddT x = true then .ok (.obj L2.length) (L2 ++ [.odd x y]) else .no) ι H σ fun _ _ _ v H' => Q v H' := g
    cases hq2 : mv τ L1 with
    | no => rw [hq2] at g; exact g
    | ex c fs L2 =>
      rw [hq2] at g
      exact gd.ext (show gd X.K Z.f W (VR X.K Z.f) (.ex c fs L2) ι H σ _ from g) (e0.trans e1)
    | ok y L2 =>
      rw [hq2] at g
      intro ι2 H2 v e2 w2 r2
      have g : gd X.K Z.f W (VR X.K Z.f) (if oddT x = true then .ok (.obj L2.length) (L2 ++ [.odd x y]) else .no) ι H σ fun _ _ _ v H' => Q v H' := g
      split at g
      · rename_i hx
        obtain ⟨d2, n2⟩ := (e1.trans e2).keep upd_same hpi
        refine ⟨u, v, rfl, d2, oddT_at (r1.up e2) hx, fun ob hob => ?_⟩
        have up := Up.tmp (K := X.K) (ι := ι2) (o := .frz ob (.own p)) d2 True.intro
        have wt := w2.tmp (o := .frz ob (.own p)) d2 True.intro n2
        have et := ((e0.trans e1).trans e2).tmp (o := .frz ob (.own p)) (.of hp) d2 True.intro
        have wA := wt.adopt (o := .odd x y) upd_same n2 ⟨ob, u, v, rfl, hob, u, [v], rfl, (r1.up e2).upU up, v, [], rfl, r2.upU up, rfl⟩
        exact g _ _ (.ref p) (et.adopt (.of hp)) wA ⟨p, by rw [← w2.len]; simp, rfl⟩
      · exact g.elim
end
end FL
namespace FL
open PySem PySem.Spec PyProof.Rows L2
section
variable {X : Cx} {Z : Zs} {W : WX} {pos p : Pos} {mk : MA} {kws : List Keyword} {m : Fn} {gP : List PV → List PV → List PV} {ks : List Str}
theorem fe_mk0 {C : Str} (F : Ini X Z.f C 0 ks gP m) (tk : Tk X W) (hg : Gl X C) (hm : X.mg C = some (.ref (Z.f C))) (hkw : FK Z X W kws mk)
    (hall : (backToKw pos (keywordEach kws X.env)).all (·.1.isSome) = true := by rfl) (hks : (backToKw pos (keywordEach kws X.env)).filterMap (·.1) = ks := by rfl) (hdb : (C == ("__debug__" : Str)) = false := by decide)
    (hpl : ((backTo pos (starEach [] X.env)).any (·.1) || (backToKw pos (keywordEach kws X.env)).any (·.1.isNone)) = false := by rfl) :
    FE Z X W (.Call (.Name C p) [] kws pos) (eMk C 0 ks.length m gP aN mk) := by
  have kp : PySem.W.keepIn X.K (.ref (Z.f C)) = true := let ⟨_, _, _, _, M, _⟩ := F.ex; M.kp
  refine ⟨fun pins s σ H Q I ⟨ι, L, τ, w, sr, g⟩ => wpAny_Call_Name_kw (ld_glob I hg hm (PySem.W.callWith_KW0 (h₀ := X.base) I.ok.mod.kin kp hall ?_ hpl) hdb)⟩
  have g : gd X.K Z.f W (VR X.K Z.f) ((mk τ L).bind fun zs L2 => if ([] : List PV).length = 0 ∧ zs.length = ks.length then (m (gP [.obj L2.length] zs) (L2 ++ [.ins C []])).bind fun r L3 => match r with
    | .non => .ok (.obj L2.length) L3
    | _ => .no else .no) ι H σ fun _ _ _ v H' => Q v H' := g
  refine thn (hkw.run pos pins s σ H (fun zv H2 => ∃ ι2 L2 zs, Wd X.K Z.f ι2 L2 H2 ∧ VRs X.K Z.f ι2 H2 zs zv ∧ gd X.K Z.f W (VR X.K Z.f) (if ([] : List PV).length = 0 ∧ zs.length = ks.length then (m (gP [.obj L2.length] zs) (L2 ++ [.ins C []])).bind fun r L3 => match r with
    | .non => .ok (.obj L2.length) L3
    | _ => .no else .no) ι2 H2 σ fun _ _ _ v H' => Q v H') I ⟨ι, L, τ, w, sr, gd.bind g fun zs L2 ι2 zv H2 _ e2 w2 r2 g2 => ⟨ι2, L2, zs, w2, r2, g2⟩⟩) fun ws s2 ⟨zv, H2, I2, rz, ι2, L2, zs, w2, r2, g2⟩ => ⟨I2.kIn, ?_⟩
  rw [hks]
  split at g2
  · rename_i hl
    exact F.run (us := []) (vs := []) (xs := []) tk I2 .nil rz rfl (by rw [← r2.len]; exact hl.2) w2 rfl r2 g2
  · exact g2.elim
theorem paired_app {α β : Type} {R : α → β → Prop} : ∀ {xs xs' : List α} {ys ys' : List β}, Paired R xs ys → Paired R xs' ys' → Paired R (xs ++ xs') (ys ++ ys')
  | _, _, _, _, .nil, h => h
  | _, _, _, _, .cons h t, k => .cons h (paired_app t k)
theorem paired_rev {α β : Type} {R : α → β → Prop} : ∀ {xs : List α} {ys : List β}, Paired R xs ys → Paired R xs.reverse ys.reverse
  | _, _, .nil => .nil
  | _, _, .cons h t => by
    rw [List.reverse_cons, List.reverse_cons]
    exact paired_app (paired_rev t) (.cons h .nil)
theorem kbindsN {K : PySem.W.Frag} {x qual : Str} {params : Arguments} {body : List Stmt} {scope : Scope} {kws : List (Str × V)} {f : Addr} {fd : FuncData} {ps : List Str} (F : FunD K x qual params body scope [] kws f fd) (n : Nat) (ks : List Str) (g : {α : Type} → List α → List α → List α)
    (hrel : ∀ {vs zs : List V} {us ws : List Value}, Vals vs us → Vals zs ws → Vals (g vs zs) (g us ws))
    (h : ∀ (kV doc pm : Value) (an : Option Addr) (cdv ct : Value) (us ws : List Value), us.length = n → ws.length = ks.length → bindArgs (PySem.W.fnOf x qual params body scope .none kV doc pm an cdv ct) ⟨us, ks.zip ws⟩ = pure (ps.zip (g us ws))) :
    KBn K fd ps n ks (fun us ws => g us ws) (fun vs zs => g vs zs) := by
  obtain ⟨oc, od, dV, kV, doc, pm, an, cdv, ct, osl, rfl, lk, hcd, hD, hK⟩ := F.ex
  rcases hD with ⟨_, rfl⟩ | ⟨e, _⟩
  · exact ⟨fun s us ws _ l1 l2 => .of_eq (h kV doc pm an cdv ct us ws l1 l2), fun r1 r2 => hrel r1 r2⟩
  · exact absurd rfl e
/-- within an except suite -/
theorem mark_gd {A : Around} {v : Option Value} (h : A.guards = some []) : (A.mark v).guards = some [] := h
theorem mark_u {A : Around} {v : Option Value} {n : Nat} (h : A.units + n < cLine) : (A.mark v).units + n < cLine := h
end
end FL
namespace L2
open PySem PySem.Spec PyProof.Rows
/-- data without lists and dicts: no addresses are read -/
def flat : PyData → Bool
  | .none => true
  | .bool _ => true
  | .int _ => true
  | .str _ => true
  | .tuple [] => true
  | .tuple [.int _] => true
  | _ => false
theorem flat_reads {h : Heap} {v : Value} {d : PyData} {as : List Addr} (f : flat d = true) (r : Reads h v d as) : as = [] := by
  cases r with
  | none => rfl
  | bool => rfl
  | int => rfl
  | str => rfl
  | list => cases f
  | dict => cases f
  | @tuple a o vs n xs as h1 h2 h3 h4 =>
    generalize vs.toList = l at h4
    cases h4 with
    | nil => rfl
    | cons h5 h6 =>
      cases h6 with
      | nil =>
        cases h5 with
        | int => rfl
        | _ => cases f
      | cons => cases h5 <;> cases f
section
variable {X : Cx} {pins : List (Addr × Obj)} {σ : St} {H : Hp} {s : Shared}
def pkD : List (PyData × PyData) → Bool
  | [] => true
  | (k, v) :: r => flat k && flat v && pkD r
/-- the pairs of a dict and what is shown of them -/
inductive DpK (K : PySem.W.Frag) (H : Hp) : List (V × V) → List (PyData × PyData) → Prop
  | nil : DpK K H [] []
  | cons {k v : V} {r : List (V × V)} {a b : PyData} {ds : List (PyData × PyData)} : Dp K H k a → Dp K H v b → DpK K H r ds → DpK K H ((k, v) :: r) ((a, b) :: ds)
theorem DpK.reads (I : Inv X pins σ H s) {l : List (V × V)} {ds : List (PyData × PyData)} (h : DpK X.K H l ds) : ∀ {es : List DictEntry}, pkD ds = true → Paired (fun (p : V × V) (e : DictEntry) => RelV p.1 e.key ∧ RelV p.2 e.val) l es → ReadsAll s.heap (es.map (·.key)) (ds.map (·.1)) [] ∧ ReadsAll s.heap (es.map (·.val)) (ds.map (·.2)) [] := by
  induction h with
  | nil => intro es _ r; cases r; exact ⟨.nil, .nil⟩
  | cons hk hv _ ih =>
    intro es f r
    cases r with
    | cons r1 r2 =>
      simp only [pkD, Bool.and_eq_true] at f
      obtain ⟨⟨f1, f2⟩, f3⟩ := f
      obtain ⟨i1, i2⟩ := ih f3 r2
      obtain ⟨as, q1⟩ := Dp.reads I _ _ _ hk r1.1
      obtain ⟨bs, q2⟩ := Dp.reads I _ _ _ hv r1.2
      cases flat_reads f1 q1
      cases flat_reads f2 q2
      exact ⟨.cons q1 i1, .cons q2 i2⟩
def rReprD (K : PySem.W.Frag) : List V → Hp → VK → Prop := fun xs H Q => ∃ (a : Addr) (l : List (V × V)) (ds : List (PyData × PyData)), xs = [.ref a] ∧
  ((∃ kvs : List (Key × V), H a = some (.dK kvs) ∧ l = kvs.map fun p => (kV p.1, p.2)) ∨ (∃ ob k v, H a = some (.frz ob (.own a)) ∧ FL.OddOb a ob k v ∧ l = [(k, v)])) ∧
  DpK K H l ds ∧ pkD ds = true ∧ (PyData.dict ds).showable = true ∧ (PyData.dict ds).depth ≤ 60 ∧ (PyData.dict ds).shown.length ≤ sizeLine ∧ Q (.str (PyData.dict ds).shown) H
theorem pairs_of_kv {P : Program} {w : World} {kvs : List (Key × V)} {vs : List (Key × Value)} (kv : KV kvs vs) : ∀ {es : List DictEntry}, Pairs (mixKind P w) es vs → Paired (fun (p : V × V) (e : DictEntry) => RelV p.1 e.key ∧ RelV p.2 e.val) (kvs.map fun p => (kV p.1, p.2)) es := by
  unfold KV at kv
  induction kv with
  | nil => intro es r; cases r; exact .nil
  | cons h _ ih =>
    intro es r
    cases r with
    | cons r1 r2 r3 =>
      obtain ⟨h1, h2⟩ := h
      exact .cons ⟨by dsimp only; rw [h1]; exact relV_key r1, by rw [r2]; exact h2⟩ (ih r3)
theorem call_reprD (hgd : X.A.guards = some []) (hu : X.A.units + 64 < cLine) : CallR X (.builtin "repr") (rReprD X.K) := by
  intro pins s σ H xs us Q I r h
  obtain ⟨a, l, ds, rfl, ha, hd, fl, sh, dp, hz, q⟩ := h
  obtain ⟨u, rfl, ru⟩ := vals1 r
  obtain rfl : u = Value.ref a := ru
  have : (a == sysModules) = false ∧ ∃ o es ep, s.heap.get? a = some o ∧ o.cls = .type "dict" ∧ o.data = .dict es ep ∧ Paired (fun (p : V × V) (e : DictEntry) => RelV p.1 e.key ∧ RelV p.2 e.val) l es.toList := by
    rcases ha with ⟨kvs, ha, rfl⟩ | ⟨ob, k, v, ha, hO, rfl⟩
    · obtain ⟨z, hs, vs, kv, o, es, ep, ho, hc, hda, hka, hpa, _⟩ := dk_of I.hok ha
      exact ⟨hs, o, es, ep, ho, hc.1, hda, pairs_of_kv kv hpa⟩
    · obtain ⟨ho, _⟩ := (show ObjOk X.prog X.w H s.heap a (.frz ob (.own a)) from I.hok a _ ha)
      obtain ⟨hs, hx, hh, ku, vu, ep, hdt, rk, rv⟩ := hO
      exact ⟨hs, ob, _, ep, ho, hx.1, hdt, .cons ⟨rk, rv⟩ .nil⟩
  obtain ⟨hs, o, es, ep, ho, hc, hda, hp⟩ := this
  obtain ⟨r1, r2⟩ := hd.reads I fl hp
  have rd : Reads s.heap (.ref a) (.dict ds) (a :: [] ++ []) := Reads.dict ho hc hda r1 r2
  exact repr_of_reads' rd sh (fun _ z => by
    have z' : sysModules = a := by simpa using z
    rw [← z'] at hs; simp at hs) hgd (by omega) (fun _ _ e => e) (fun h' u tk hk => ⟨.str _, H, I.kept (t' := tk) hk, ⟨_, rfl⟩, q⟩) hz
end
end L2
namespace FL
open PySem PySem.Spec PyProof.Rows L2
section
variable {K : PySem.W.Frag} {ga : Ga} {ι : List Addr} {H : Hp} {L : LH}
def datK (L : LH) : List (PV × PV) → Option (List (PyData × PyData))
  | [] => some []
  | (k, v) :: r => match dat L 60 k, dat L 60 v, datK L r with
    | some a, some b, some ds => some ((a, b) :: ds)
    | _, _, _ => none
theorem datK_ok (w : Wd K ga ι L H) : ∀ {ps : List (PV × PV)} {l : List (V × V)} {ds : List (PyData × PyData)}, Paired (fun (p : PV × PV) (q : V × V) => VR K ga ι H p.1 q.1 ∧ VR K ga ι H p.2 q.2) ps l → datK L ps = some ds → DpK K H l ds
  | _, _, ds, .nil, e => by
    have e' : ds = [] := by simpa [datK] using e.symm
    subst e'; exact .nil
  | _, _, ds, @Paired.cons _ _ _ (k, v) q _ _ r1 r2, e => by
    obtain ⟨q1, q2⟩ := q
    unfold datK at e
    split at e
    · rename_i a b ds' h1 h2 h3
      cases e
      exact .cons (dat_ok w _ _ _ _ r1.1 h1) (dat_ok w _ _ _ _ r1.2 h2) (datK_ok w r2 h3)
    · cases e
theorem DRs.prs {ι : List Addr} {H : Hp} : ∀ {kvs : List (Key × PV)} {l : List (Key × V)}, DRs K ga ι H kvs l → Paired (fun (p : PV × PV) (q : V × V) => VR K ga ι H p.1 q.1 ∧ VR K ga ι H p.2 q.2) (kvs.map fun p => (kP p.1, p.2)) (l.map fun p => (kV p.1, p.2))
  | [], _, h => by cases (show _ = [] from h); exact .nil
  | p :: ps, _, h => by
    obtain ⟨v, r, rfl, h1, h2⟩ := h
    exact .cons ⟨vrk _, h1⟩ (DRs.prs h2)
def reprDF (ps : List (PV × PV)) (L : LH) : R PV := match datK L ps with
  | some ds => if pkD ds = true ∧ (PyData.dict ds).showable = true ∧ (PyData.dict ds).depth ≤ 60 ∧ (PyData.dict ds).shown.length ≤ sizeLine then .ok (.str (PyData.dict ds).shown) L else .no
  | none => .no
def reprAF (xs : List PV) (L : LH) : R PV := match xs with
  | [.obj n] => (match L[n]? with
    | some (.dct kvs) => reprDF (kvs.map fun p => (kP p.1, p.2)) L
    | some (.odd k v) => reprDF [(k, v)] L
    | _ => reprF [.obj n] L)
  | xs => reprF xs L
theorem reprAL : CaL K ga reprAF (fun xs H Q => rRepr K xs H Q ∨ rReprD K xs H Q) := by
  intro W ι L H σ xs us Q w r g
  unfold reprAF at g
  split at g
  · split at g
    · rename_i hl
      obtain ⟨u, rfl, r1⟩ := r.one
      obtain ⟨a, l, rfl, hn, h1, h2⟩ := dct_at w r1 hl
      unfold reprDF at g
      split at g
      · rename_i ds hd
        split at g
        · rename_i hz
          exact .inr ⟨a, _, ds, rfl, .inl ⟨l, h1, rfl⟩, datK_ok w h2.prs hd, hz.1, hz.2.1, hz.2.2.1, hz.2.2.2, g.ok w vrs⟩
        · exact g.elim
      · exact g.elim
    · rename_i hl
      obtain ⟨u, rfl, r1⟩ := r.one
      obtain ⟨a, hn, rfl⟩ := r1
      obtain ⟨ho, q1, od, kv, vv, rfl, q2, q3⟩ := w.at_ _ a _ hn hl
      unfold reprDF at g
      split at g
      · rename_i ds hd
        split at g
        · rename_i hz
          obtain ⟨y1, r1, e1, p1, y2, r2, e2, p2, e3⟩ := q3
          cases e1; cases e2
          exact .inr ⟨a, _, ds, rfl, .inr ⟨od, kv, vv, q1, q2, rfl⟩, datK_ok w (.cons ⟨p1, p2⟩ .nil) hd, hz.1, hz.2.1, hz.2.2.1, hz.2.2.2, g.ok w vrs⟩
        · exact g.elim
      · exact g.elim
    · exact .inl (reprL W ι L H σ _ us Q w r g)
  · exact .inl (reprL W ι L H σ _ us Q w r g)
theorem call_reprA {X : Cx} (hgd : X.A.guards = some []) (hu : X.A.units + 64 < cLine) : CallR X (.builtin "repr") (fun xs H Q => rRepr X.K xs H Q ∨ rReprD X.K xs H Q) := fun pins s σ H xs us Q I r h => by
  rcases h with h | h
  · exact L2.call_repr hgd hu pins s σ H xs us Q I r h
  · exact L2.call_reprD hgd hu pins s σ H xs us Q I r h
end
end FL
namespace K16
open PySem PySem.Spec PyProof.Rows L2 FL
structure En (P : Program) (w : World) (K : PySem.W.Frag) (mg : Str → Option Value) (base : Heap) (ga : Ga) : Prop where
  f_Rows_eq : FunD K "__eq__" "Rows.__eq__" (defArgs s_Rows_eq) (defBody s_Rows_eq) (defScope s_Rows_eq) [] [] (me K ga "Rows" "__eq__") (fdA K (me K ga "Rows" "__eq__"))
  q_Rows_eq : Meth K (ga "Rows") "__eq__" (me K ga "Rows" "__eq__")
  fi_Rows_eq : PySem.W.fnIn K (me K ga "Rows" "__eq__") = true
  f_Rows_lay : FunD K "lay" "Rows.lay" (defArgs s_Rows_lay) (defBody s_Rows_lay) (defScope s_Rows_lay) [] [] (me K ga "Rows" "lay") (fdA K (me K ga "Rows" "lay"))
  q_Rows_lay : Meth K (ga "Rows") "lay" (me K ga "Rows" "lay")
  fi_Rows_lay : PySem.W.fnIn K (me K ga "Rows" "lay") = true
  f_is_integer : FunD K "is_integer" "is_integer" (defArgs s_is_integer) (defBody s_is_integer) (defScope s_is_integer) [] [] (ga "is_integer") (fdA K (ga "is_integer"))
  m_is_integer : mg "is_integer" = some (.ref (ga "is_integer"))
  f_is_count : FunD K "is_count" "is_count" (defArgs s_is_count) (defBody s_is_count) (defScope s_is_count) [] [] (ga "is_count") (fdA K (ga "is_count"))
  m_is_count : mg "is_count" = some (.ref (ga "is_count"))
  f_is_dict_of_numbers : FunD K "is_dict_of_numbers" "is_dict_of_numbers" (defArgs s_is_dict_of_numbers) (defBody s_is_dict_of_numbers) (defScope s_is_dict_of_numbers) [] [] (ga "is_dict_of_numbers") (fdA K (ga "is_dict_of_numbers"))
  m_is_dict_of_numbers : mg "is_dict_of_numbers" = some (.ref (ga "is_dict_of_numbers"))
  f_Rows_init : FunD K "__init__" "Rows.__init__" (defArgs s_Rows_init) (defBody s_Rows_init) (defScope s_Rows_init) [] [] (me K ga "Rows" "__init__") (fdA K (me K ga "Rows" "__init__"))
  f_Rows_answers : FunD K "answers" "Rows.answers" (defArgs s_Rows_answers) (defBody s_Rows_answers) (defScope s_Rows_answers) [] [] (pg K ga "Rows" "answers") (fdA K (pg K ga "Rows" "answers"))
  p_Rows_answers : PropOf K (ga "Rows") "answers" (me K ga "Rows" "answers") (pg K ga "Rows" "answers")
  f_Rows_fails : FunD K "fails" "Rows.fails" (defArgs s_Rows_fails) (defBody s_Rows_fails) (defScope s_Rows_fails) [] [] (pg K ga "Rows" "fails") (fdA K (pg K ga "Rows" "fails"))
  p_Rows_fails : PropOf K (ga "Rows") "fails" (me K ga "Rows" "fails") (pg K ga "Rows" "fails")
  f_greater : FunD K "greater" "greater" (defArgs s_greater) (defBody s_greater) (defScope s_greater) [] [] (ga "greater") (fdA K (ga "greater"))
  m_greater : mg "greater" = some (.ref (ga "greater"))
  f_greatest : FunD K "greatest" "greatest" (defArgs s_greatest) (defBody s_greatest) (defScope s_greatest) [] [] (ga "greatest") (fdA K (ga "greatest"))
  m_greatest : mg "greatest" = some (.ref (ga "greatest"))
  f_Rows_greatest : FunD K "greatest" "Rows.greatest" (defArgs s_Rows_greatest) (defBody s_Rows_greatest) (defScope s_Rows_greatest) [] [] (me K ga "Rows" "greatest") (fdA K (me K ga "Rows" "greatest"))
  q_Rows_greatest : Meth K (ga "Rows") "greatest" (me K ga "Rows" "greatest")
  fi_Rows_greatest : PySem.W.fnIn K (me K ga "Rows" "greatest") = true
  f_Rows_stops : FunD K "stops" "Rows.stops" (defArgs s_Rows_stops) (defBody s_Rows_stops) (defScope s_Rows_stops) [] [] (pg K ga "Rows" "stops") (fdA K (pg K ga "Rows" "stops"))
  p_Rows_stops : PropOf K (ga "Rows") "stops" (me K ga "Rows" "stops") (pg K ga "Rows" "stops")
  f__law_draw : FunD K "_law_draw" "_law_draw" (defArgs s__law_draw) (defBody s__law_draw) (defScope s__law_draw) [] [] (ga "_law_draw") (fdA K (ga "_law_draw"))
  m__law_draw : mg "_law_draw" = some (.ref (ga "_law_draw"))
  f__law_drawn : FunD K "_law_drawn" "_law_drawn" (defArgs s__law_drawn) (defBody s__law_drawn) (defScope s__law_drawn) [] [] (ga "_law_drawn") (fdA K (ga "_law_drawn"))
  m__law_drawn : mg "_law_drawn" = some (.ref (ga "_law_drawn"))
  f__law_pool : FunD K "_law_pool" "_law_pool" (defArgs s__law_pool) (defBody s__law_pool) (defScope s__law_pool) [] [] (ga "_law_pool") (fdA K (ga "_law_pool"))
  m__law_pool : mg "_law_pool" = some (.ref (ga "_law_pool"))
  f__law_told : FunD K "_law_told" "_law_told" (defArgs s__law_told) (defBody s__law_told) (defScope s__law_told) [] [] (ga "_law_told") (fdA K (ga "_law_told"))
  m__law_told : mg "_law_told" = some (.ref (ga "_law_told"))
  f_law : FunD K "law" "law" (defArgs s_law) (defBody s_law) (defScope s_law) [] [] (ga "law") (fdA K (ga "law"))
  m_law : mg "law" = some (.ref (ga "law"))
  m_Rows : mg "Rows" = some (.ref (ga "Rows"))
  k_Rows : SlX.SCls K (ga "Rows")
  i_Rows : L2.Mk K (ga "Rows") (me K ga "Rows" "__init__")
  ne_Rows : PySem.W.findIn K (.ref (ga "Rows")) "__ne__" = some (some (.builtin "object.__ne__"))
  ob_Rows : PySem.W.mroIn K (ga "Rows") (.type "object") = some true
  nf_Rows : ∀ t ∈ NF, PySem.W.notFirst K (ga "Rows") (t.v ga) = true
  x_InvalidRows : ETx P K mg "InvalidRows" (ga "InvalidRows") (me K ga "InvalidRows" "__init__") "ValueError" "ValueError.__new__" "ValueError.__init__" PySem.MEX.bmV
  g_InvalidRows : PySem.MEX.EFn1 P K (ga "InvalidRows") (me K ga "InvalidRows" "__init__") "value"
  n_InvalidRows_value : PySem.W.findIn K (.ref (ga "InvalidRows")) "value" = some none
  ex : ∀ c ∈ KNOWN, ∀ d ∈ KNOWN, PySem.W.exmOne K (.ref (ga c)) (.ref (ga d)) = some (decide (c = d))
  b_dict : mg "dict" = none
  b_zip : mg "zip" = none
  b_isinstance : mg "isinstance" = none
  b_len : mg "len" = none
  b_all : mg "all" = none
  b_any : mg "any" = none
  b_sum : mg "sum" = none
  b_max : mg "max" = none
  b_min : mg "min" = none
  b_repr : mg "repr" = none
  b_int : mg "int" = none
  b_bool : mg "bool" = none
  b_str : mg "str" = none
  b_tuple : mg "tuple" = none
  b_list : mg "list" = none
  b_range : mg "range" = none
  b_enumerate : mg "enumerate" = none
  b_sorted : mg "sorted" = none
  kit : Kit K ga CS TAB
  kits : KitS K ga SS
  sl_own_answers : SlT K ga "own_answers" [("Rows", 0)]
  sl_own_fails : SlT K ga "own_fails" [("Rows", 1)]
  sl_own_stops : SlT K ga "own_stops" [("Rows", 2)]
  m_greatest_rows : mg "greatest_rows" = some (.ref (ga "greatest"))
section
variable {P : Program} {w : World} {K : PySem.W.Frag} {mg : Str → Option Value} {base : Heap} {ga : Ga}
theorem kn_InvalidRows (e : En P w K mg base ga) : ∀ c ∈ KNOWN, PySem.W.exmOne K (.ref (ga c)) (.ref (ga "InvalidRows")) = some (decide (c = "InvalidRows")) := fun c h => e.ex c h "InvalidRows" (by decide)
noncomputable def m_Rows_eq : Fn := fnB 2 3 ((sSeq (sIf (tNot (tru (eF (isiS SS CS TAB) (aC (eV 1) (aC (eC (.glo "Rows")) aN))))) (sRt (eC (.bl false))) sN)
    (sSeq (sAs (eAnd (eOp eqDgF (eSlt "own_answers" [("Rows", 0)] (eV 0)) (eSlt "own_answers" [("Rows", 0)] (eV 1))) (eOp eqDgF (eSlt "own_fails" [("Rows", 1)] (eV 0)) (eSlt "own_fails" [("Rows", 1)] (eV 1)))) (gN 2))
    (sRt (eAnd (eV 2) (eOp eqDgF (eSlt "own_stops" [("Rows", 2)] (eV 0)) (eSlt "own_stops" [("Rows", 2)] (eV 1))))))))
theorem l_Rows_eq : ∀ xs L, xs.length ≠ 2 → m_Rows_eq xs L = .no := fnB_len
theorem b_Rows_eq (e : En P w K mg base ga) : Binds K (fdA K (me K ga "Rows" "__eq__")) ["self", "other"] [] := e.f_Rows_eq.bindsN fun _ _ _ _ _ _ us hl => match us, hl with | [_, _], _ => rfl
theorem w_Rows_eq (e : En P w K mg base ga) : FnM P w K mg base ga 1 (me K ga "Rows" "__eq__") (fdA K (me K ga "Rows" "__eq__")) ["self", "other"] m_Rows_eq := by
  exact fn_ok e.f_Rows_eq sc_Rows_eq (fun cdv A outer s H E hgd hr => (fs_cons (fs_if (ft_not (ft_tru (fe_B call_isiA (isiSL e.kit e.kits) rfl e.b_isinstance boot_b_isinstance (fa_cons (fe_n 1) (fa_cons (fe_glo rfl e.m_Rows) fa_nil))))) (fs_one (fs_ret fe_bl)) fs_nil)
      (fs_cons (fs_set (i := 2) sc_Rows_eq.nd rfl (by first | exact Or.inl rfl | exact Or.inr rfl) (fe_and (fe_cmp (op_eqDg (u65 hr)) eqDgL (fe_slt e.sl_own_answers (fe_n 0) rfl) (fe_slt e.sl_own_answers (fe_n 1) rfl) (nomark _)) (fe_b1 (fe_cmp (op_eqDg (u65 hr)) eqDgL (fe_slt e.sl_own_fails (fe_n 0) rfl) (fe_slt e.sl_own_fails (fe_n 1) rfl) (nomark _)))))
      (fs_one (fs_ret (fe_and (fe_n 2) (fe_b1 (fe_cmp (op_eqDg (u65 hr)) eqDgL (fe_slt e.sl_own_stops (fe_n 0) rfl) (fe_slt e.sl_own_stops (fe_n 1) rfl) (nomark _)))))))))
noncomputable def m_Rows_lay : Fn := fnB 4 5 ((sSeq (sSlt "own_answers" [("Rows", 0)] (eDc (iA (eF sortedDF (aC (eV 1) aN))) (gN 4) tY (eV 4) (eOp ixF (eV 1) (eV 4)) [4]) (eV 0))
    (sSeq (sSlt "own_fails" [("Rows", 1)] (eDc (iA (eF sortedDF (aC (eV 2) aN))) (gN 4) tY (eV 4) (eOp ixF (eV 2) (eV 4)) [4]) (eV 0))
    (sSlt "own_stops" [("Rows", 2)] (eDc (iA (eF sortedDF (aC (eV 3) aN))) (gN 4) tY (eV 4) (eOp ixF (eV 3) (eV 4)) [4]) (eV 0)))))
theorem l_Rows_lay : ∀ xs L, xs.length ≠ 4 → m_Rows_lay xs L = .no := fnB_len
theorem b_Rows_lay (e : En P w K mg base ga) : Binds K (fdA K (me K ga "Rows" "lay")) ["self", "answers", "fails", "stops"] [] := e.f_Rows_lay.bindsN fun _ _ _ _ _ _ us hl => match us, hl with | [_, _, _, _], _ => rfl
theorem w_Rows_lay (e : En P w K mg base ga) : FnM P w K mg base ga 1 (me K ga "Rows" "lay") (fdA K (me K ga "Rows" "lay")) ["self", "answers", "fails", "stops"] m_Rows_lay := by
  exact fn_ok e.f_Rows_lay sc_Rows_lay (fun cdv A outer s H E hgd hr => (fs_cons (fs_slt e.sl_own_answers (fe_n 0) (fe_dc (ow := [("tick", 4)]) rfl sc_Rows_lay.nd (fi_a (fe_B (cr_sortDI rfl) sortedDL rfl e.b_sorted boot_b_sorted (fa_cons (fe_n 1) fa_nil))) (blkOk_by (N := ["self", "answers", "fails", "stops", "tick"]) (sc := defScope s_Rows_lay) (by decide +kernel)) (fun _ _ _ _ _ => (fgo_name (i := 4) (by decide) sc_Rows_lay.nd rfl (Or.inl rfl) (.inr rfl))) (fun _ _ _ _ _ => fts_nil) (fun _ _ _ _ _ => (fe_n 4)) (fun _ _ _ _ _ => (fe_ix (u1 hr) (fe_n 1) (fe_n 4) (fun _ _ => rfl)))) rfl)
      (fs_cons (fs_slt e.sl_own_fails (fe_n 0) (fe_dc (ow := [("tick", 4)]) rfl sc_Rows_lay.nd (fi_a (fe_B (cr_sortDI rfl) sortedDL rfl e.b_sorted boot_b_sorted (fa_cons (fe_n 2) fa_nil))) (blkOk_by (N := ["self", "answers", "fails", "stops", "tick"]) (sc := defScope s_Rows_lay) (by decide +kernel)) (fun _ _ _ _ _ => (fgo_name (i := 4) (by decide) sc_Rows_lay.nd rfl (Or.inl rfl) (.inr rfl))) (fun _ _ _ _ _ => fts_nil) (fun _ _ _ _ _ => (fe_n 4)) (fun _ _ _ _ _ => (fe_ix (u1 hr) (fe_n 2) (fe_n 4) (fun _ _ => rfl)))) rfl)
      (fs_one (fs_slt e.sl_own_stops (fe_n 0) (fe_dc (ow := [("tick", 4)]) rfl sc_Rows_lay.nd (fi_a (fe_B (cr_sortDI rfl) sortedDL rfl e.b_sorted boot_b_sorted (fa_cons (fe_n 3) fa_nil))) (blkOk_by (N := ["self", "answers", "fails", "stops", "tick"]) (sc := defScope s_Rows_lay) (by decide +kernel)) (fun _ _ _ _ _ => (fgo_name (i := 4) (by decide) sc_Rows_lay.nd rfl (Or.inl rfl) (.inr rfl))) (fun _ _ _ _ _ => fts_nil) (fun _ _ _ _ _ => (fe_n 4)) (fun _ _ _ _ _ => (fe_ix (u1 hr) (fe_n 3) (fe_n 4) (fun _ _ => rfl)))) rfl)))))
noncomputable def m_is_integer : Fn := fnB 1 1 ((sRt (eAnd (eF (isiS SS CS TAB) (aC (eV 0) (aC (eC (.ty "int")) aN))) (eNot (eF (isiS SS CS TAB) (aC (eV 0) (aC (eC (.ty "bool")) aN)))))))
theorem l_is_integer : ∀ xs L, xs.length ≠ 1 → m_is_integer xs L = .no := fnB_len
theorem b_is_integer (e : En P w K mg base ga) : Binds K (fdA K (ga "is_integer")) ["value"] [] := e.f_is_integer.bindsN fun _ _ _ _ _ _ us hl => match us, hl with | [_], _ => rfl
theorem w_is_integer (e : En P w K mg base ga) : FnM P w K mg base ga 1 (ga "is_integer") (fdA K (ga "is_integer")) ["value"] m_is_integer := by
  exact fn_ok e.f_is_integer sc_is_integer (fun cdv A outer s H E hgd hr => (fs_one (fs_ret (fe_and (fe_B call_isiA (isiSL e.kit e.kits) rfl e.b_isinstance boot_b_isinstance (fa_cons (fe_n 0) (fa_cons (fe_ty rfl e.b_int boot_t_int) fa_nil))) (fe_b1 (fe_not (fe_B call_isiA (isiSL e.kit e.kits) rfl e.b_isinstance boot_b_isinstance (fa_cons (fe_n 0) (fa_cons (fe_ty rfl e.b_bool boot_t_bool) fa_nil)))))))))
noncomputable def m_is_count : Fn := fnB 1 1 ((sRt (eAnd (eF m_is_integer (aC (eV 0) aN)) (eOp geF (eV 0) (eC (.int 0))))))
theorem l_is_count : ∀ xs L, xs.length ≠ 1 → m_is_count xs L = .no := fnB_len
theorem b_is_count (e : En P w K mg base ga) : Binds K (fdA K (ga "is_count")) ["value"] [] := e.f_is_count.bindsN fun _ _ _ _ _ _ us hl => match us, hl with | [_], _ => rfl
theorem w_is_count (e : En P w K mg base ga) : FnM P w K mg base ga 2 (ga "is_count") (fdA K (ga "is_count")) ["value"] m_is_count := by
  exact fn_ok e.f_is_count sc_is_count (fun cdv A outer s H E hgd hr => (fs_one (fs_ret (fe_and (fe_call (dfn (w_is_integer e) (b_is_integer e) e.f_is_integer.kp l_is_integer (by exact deep_gd hgd) hr) (tk_of (takes_of rfl rfl rfl rfl)) rfl e.m_is_integer (fa_cons (fe_n 0) fa_nil)) (fe_b1 (fe_cmp op_ge geL (fe_n 0) fe_int (nomark _)))))))
noncomputable def m_is_dict_of_numbers : Fn := fnB 1 3 ((sSeq (sIf (tNot (tru (eF (isiS SS CS TAB) (aC (eV 0) (aC (eC (.ty "dict")) aN))))) (sRt (eC (.bl false))) sN)
    (sRt (eQ allF (lockR (eV 0) (vC (iIs (eV 0)) (gT 2 (gs1 (gN 1) (gs1 (gN 2) gs0))) tY (eAnd (eF m_is_count (aC (eV 1) aN)) (eF m_is_integer (aC (eV 2) aN))) [1, 2]))))))
theorem l_is_dict_of_numbers : ∀ xs L, xs.length ≠ 1 → m_is_dict_of_numbers xs L = .no := fnB_len
theorem b_is_dict_of_numbers (e : En P w K mg base ga) : Binds K (fdA K (ga "is_dict_of_numbers")) ["value"] [] := e.f_is_dict_of_numbers.bindsN fun _ _ _ _ _ _ us hl => match us, hl with | [_], _ => rfl
theorem w_is_dict_of_numbers (e : En P w K mg base ga) : FnM P w K mg base ga 3 (ga "is_dict_of_numbers") (fdA K (ga "is_dict_of_numbers")) ["value"] m_is_dict_of_numbers := by
  exact fn_ok e.f_is_dict_of_numbers sc_is_dict_of_numbers (fun cdv A outer s H E hgd hr => (fs_cons (fs_if (ft_not (ft_tru (fe_B call_isiA (isiSL e.kit e.kits) rfl e.b_isinstance boot_b_isinstance (fa_cons (fe_n 0) (fa_cons (fe_ty rfl e.b_dict boot_t_dict) fa_nil))))) (fs_one (fs_ret fe_bl)) fs_nil)
      (fs_one (fs_ret (fe_Bq (cr_all rfl) allL rfl e.b_all boot_b_all (fl_ofV (fv_lock (eV 0) (fv_lc (ow := [("tick", 1), ("number", 2)]) rfl sc_is_dict_of_numbers.nd (fi_items (fe_n 0)) (blkOk_by (N := ["value", "tick", "number"]) (sc := defScope s_is_dict_of_numbers) (by decide +kernel)) (fun _ _ _ _ _ => (fgo_tup rfl (fgo_cons (fgo_name (i := 1) (by decide) sc_is_dict_of_numbers.nd rfl (Or.inl rfl) (.inr rfl)) (fgo_cons (fgo_name (i := 2) (by decide) sc_is_dict_of_numbers.nd rfl (Or.inl rfl) (.inr rfl)) fgo_nil gN_L) gN_L))) (fun _ _ _ _ _ => fts_nil) (fun _ _ _ _ _ => (fe_and (fe_call (dfn (w_is_count e) (b_is_count e) e.f_is_count.kp l_is_count (by exact deep_gd hgd) hr) tk_0 rfl e.m_is_count (fa_cons (fe_n 1) fa_nil)) (fe_b1 (fe_call (dfn (w_is_integer e) (b_is_integer e) e.f_is_integer.kp l_is_integer (by exact deep_gd hgd) hr) tk_0 rfl e.m_is_integer (fa_cons (fe_n 2) fa_nil)))))))))))))
noncomputable def m_Rows_init : Fn := fnB 4 5 ((sSeq (sFor (iA (eT (aC (eV 1) (aC (eV 2) (aC (eV 3) aN))))) (gN 4) (sIf (tNot (tru (eF m_is_dict_of_numbers (aC (eV 4) aN)))) (sRs "InvalidRows" ["value"] (aC (eV 4) aN)) sN))
    (sEx (eMe "lay" [("Rows", m_Rows_lay)] (eV 0) (aC (eV 1) (aC (eV 2) (aC (eV 3) aN)))))))
theorem l_Rows_init : ∀ xs L, xs.length ≠ 4 → m_Rows_init xs L = .no := fnB_len
theorem b_Rows_init (e : En P w K mg base ga) : Binds K (fdA K (me K ga "Rows" "__init__")) ["self", "answers", "fails", "stops"] [] := e.f_Rows_init.bindsN fun _ _ _ _ _ _ us hl => match us, hl with | [_, _, _, _], _ => rfl
theorem w_Rows_init (e : En P w K mg base ga) : FnM P w K mg base ga 4 (me K ga "Rows" "__init__") (fdA K (me K ga "Rows" "__init__")) ["self", "answers", "fails", "stops"] m_Rows_init := by
  exact fn_ok e.f_Rows_init sc_Rows_init (fun cdv A outer s H E hgd hr => (fs_cons (fs_for (passes_of rfl) rfl (fi_a (fe_tup (fa_cons (fe_n 1) (fa_cons (fe_n 2) (fa_cons (fe_n 3) fa_nil))))) (fg_name (i := 4) sc_Rows_init.nd rfl (by first | exact Or.inl rfl | exact Or.inr rfl))
        (fs_one (fs_if (ft_not (ft_tru (fe_call (dfn (w_is_dict_of_numbers e) (b_is_dict_of_numbers e) e.f_is_dict_of_numbers.kp l_is_dict_of_numbers (by exact deep_gd hgd) hr) (tk_of (takes_of rfl rfl rfl rfl)) rfl e.m_is_dict_of_numbers (fa_cons (fe_n 4) fa_nil)))) (fs_one (fs_raise1 rfl e.x_InvalidRows e.g_InvalidRows hr (takes_of rfl rfl rfl rfl) (fa_cons (fe_n 4) fa_nil))) fs_nil)))
      (fs_one (fs_expr (fe_me (ms := [("Rows", m_Rows_lay)]) (ms_cons (FL.mtS e.k_Rows e.q_Rows_lay (dfn (w_Rows_lay e) (b_Rows_lay e) e.f_Rows_lay.kp l_Rows_lay (by exact deep_gd hgd) hr)) ms_nil) (tk_of (takes_of rfl rfl rfl rfl)) (fe_n 0) (fa_cons (fe_n 1) (fa_cons (fe_n 2) (fa_cons (fe_n 3) fa_nil))))))))
def gP_Rows_0_stops_fails_answers : List PV → List PV → List PV := fun xs zs => xs ++ zs.reverse
theorem bf_Rows_0_stops_fails_answers (e : En P w K mg base ga) : BindF K ga (fdA K (me K ga "Rows" "__init__")) ["self", "answers", "fails", "stops"] 1 ["stops", "fails", "answers"] gP_Rows_0_stops_fails_answers :=
  ⟨_, _, FL.kbindsN (ps := ["self", "answers", "fails", "stops"]) e.f_Rows_init 1 ["stops", "fails", "answers"] (fun us ws => us ++ ws.reverse) (fun r1 r2 => paired_app r1 (paired_rev r2))
    (fun kV doc pm an cdv ct us ws l1 l2 => match us, ws, l1, l2 with | [_], [_, _, _], _, _ => rfl), fun ι H xs zs vs us r rz => r.app rz.rev⟩
def gP_Rows_3 : List PV → List PV → List PV := fun xs _ => xs
theorem bf_Rows_3 (e : En P w K mg base ga) : BindF K ga (fdA K (me K ga "Rows" "__init__")) ["self", "answers", "fails", "stops"] 4 [] gP_Rows_3 := bf_pos (b_Rows_init e) rfl
noncomputable def m_Rows_answers : Fn := fnB 1 1 ((sRt (eF dictF (aC (eSlt "own_answers" [("Rows", 0)] (eV 0)) aN))))
theorem b_Rows_answers (e : En P w K mg base ga) : Binds K (fdA K (pg K ga "Rows" "answers")) ["self"] [] := e.f_Rows_answers.bindsN fun _ _ _ _ _ _ us hl => match us, hl with | [_], _ => rfl
theorem w_Rows_answers (e : En P w K mg base ga) : FnM P w K mg base ga 1 (pg K ga "Rows" "answers") (fdA K (pg K ga "Rows" "answers")) ["self"] m_Rows_answers := by
  exact fn_ok e.f_Rows_answers sc_Rows_answers (fun cdv A outer s H E hgd hr => (fs_one (fs_ret (fe_T (cr_dict rfl) dictL rfl e.b_dict boot_t_dict (fa_cons (fe_slt e.sl_own_answers (fe_n 0) rfl) fa_nil)))))
noncomputable def m_Rows_fails : Fn := fnB 1 1 ((sRt (eF dictF (aC (eSlt "own_fails" [("Rows", 1)] (eV 0)) aN))))
theorem b_Rows_fails (e : En P w K mg base ga) : Binds K (fdA K (pg K ga "Rows" "fails")) ["self"] [] := e.f_Rows_fails.bindsN fun _ _ _ _ _ _ us hl => match us, hl with | [_], _ => rfl
theorem w_Rows_fails (e : En P w K mg base ga) : FnM P w K mg base ga 1 (pg K ga "Rows" "fails") (fdA K (pg K ga "Rows" "fails")) ["self"] m_Rows_fails := by
  exact fn_ok e.f_Rows_fails sc_Rows_fails (fun cdv A outer s H E hgd hr => (fs_one (fs_ret (fe_T (cr_dict rfl) dictL rfl e.b_dict boot_t_dict (fa_cons (fe_slt e.sl_own_fails (fe_n 0) rfl) fa_nil)))))
noncomputable def m_greater : Fn := fnB 2 4 ((sSeq (sIf (tOr (tOp2 isNF (eV 0) (eC .non)) (tOp2 isNF (eV 1) (eC .non))) (sRt (eIf (tOp2 isNF (eV 0) (eC .non)) (eV 1) (eV 0))) sN)
    (sSeq (sIf (tru (eF (isiS SS CS TAB) (aC (eV 0) (aC (eC (.ty "tuple")) aN)))) sNo sN)
    (sRt (eF max2F (aC (eV 0) (aC (eV 1) aN)))))))
theorem l_greater : ∀ xs L, xs.length ≠ 2 → m_greater xs L = .no := fnB_len
theorem b_greater (e : En P w K mg base ga) : Binds K (fdA K (ga "greater")) ["one", "other"] [] := e.f_greater.bindsN fun _ _ _ _ _ _ us hl => match us, hl with | [_, _], _ => rfl
theorem w_greater (e : En P w K mg base ga) : FnM P w K mg base ga 1 (ga "greater") (fdA K (ga "greater")) ["one", "other"] m_greater := by
  exact fn_ok e.f_greater sc_greater (fun cdv A outer s H E hgd hr => (fs_cons (fs_if (PW.pt (fw_or (ft_cmp op_isN isNL (fe_n 0) fe_non rfl) (fw_or1 (ft_cmp op_isN isNL (fe_n 1) fe_non rfl)))) (fs_one (fs_ret (fe_if (ft_cmp op_isN isNL (fe_n 0) fe_non rfl) (fe_n 1) (fe_n 0)))) fs_nil)
      (fs_cons (fs_if (ft_tru (fe_B call_isiA (isiSL e.kit e.kits) rfl e.b_isinstance boot_b_isinstance (fa_cons (fe_n 0) (fa_cons (fe_ty rfl e.b_tuple boot_t_tuple) fa_nil)))) fss_no fs_nil)
      (fs_one (fs_ret (fe_B (call_max2 rfl) max2L rfl e.b_max boot_b_max (fa_cons (fe_n 0) (fa_cons (fe_n 1) fa_nil))))))))
noncomputable def m_greatest : Fn := fnB 1 3 ((sSeq (sAs (eC .non) (gN 1))
    (sSeq (sFor (iA (eV 0)) (gN 2) (sAs (eF m_greater (aC (eV 1) (aC (eV 2) aN))) (gN 1)))
    (sRt (eV 1)))))
theorem l_greatest : ∀ xs L, xs.length ≠ 1 → m_greatest xs L = .no := fnB_len
theorem b_greatest (e : En P w K mg base ga) : Binds K (fdA K (ga "greatest")) ["numbers"] [] := e.f_greatest.bindsN fun _ _ _ _ _ _ us hl => match us, hl with | [_], _ => rfl
theorem w_greatest (e : En P w K mg base ga) : FnM P w K mg base ga 2 (ga "greatest") (fdA K (ga "greatest")) ["numbers"] m_greatest := by
  exact fn_ok e.f_greatest sc_greatest (fun cdv A outer s H E hgd hr => (fs_cons (fs_set (i := 1) sc_greatest.nd rfl (by first | exact Or.inl rfl | exact Or.inr rfl) fe_non)
      (fs_cons (fs_for (passes_of rfl) rfl (fi_a (fe_n 0)) (fg_name (i := 2) sc_greatest.nd rfl (by first | exact Or.inl rfl | exact Or.inr rfl))
        (fs_one (fs_set (i := 1) sc_greatest.nd rfl (by first | exact Or.inl rfl | exact Or.inr rfl) (fe_call (dfn (w_greater e) (b_greater e) e.f_greater.kp l_greater (by exact deep_gd hgd) hr) (tk_of (takes_of rfl rfl rfl rfl)) rfl e.m_greater (fa_cons (fe_n 1) (fa_cons (fe_n 2) fa_nil))))))
      (fs_one (fs_ret (fe_n 1))))))
noncomputable def m_Rows_greatest : Fn := gcF (fnB 1 1 ((sRt (eF m_greatest (aC (eNew (vL (aSV (eSlt "own_answers" [("Rows", 0)] (eV 0)) (aSV (eSlt "own_fails" [("Rows", 1)] (eV 0)) aN)))) aN)))))
theorem l_Rows_greatest : ∀ xs L, xs.length ≠ 1 → m_Rows_greatest xs L = .no := gcF_len fnB_len
theorem b_Rows_greatest (e : En P w K mg base ga) : Binds K (fdA K (me K ga "Rows" "greatest")) ["self"] [] := e.f_Rows_greatest.bindsN fun _ _ _ _ _ _ us hl => match us, hl with | [_], _ => rfl
theorem w_Rows_greatest (e : En P w K mg base ga) : FnM P w K mg base ga 3 (me K ga "Rows" "greatest") (fdA K (me K ga "Rows" "greatest")) ["self"] m_Rows_greatest := by
  exact fn_gc (fn_ok e.f_Rows_greatest sc_Rows_greatest (fun cdv A outer s H E hgd hr => (fs_one (fs_ret (fe_call (dfn (w_greatest e) (b_greatest e) e.f_greatest.kp l_greatest (by exact deep_gd hgd) hr) (tk_of (takes_of rfl rfl rfl rfl)) rfl e.m_greatest_rows (fa_cons (fe_ofV (fv_lst (fa_starV rfl (fe_slt e.sl_own_answers (fe_n 0) rfl) (fa_starV rfl (fe_slt e.sl_own_fails (fe_n 0) rfl) fa_nil)))) fa_nil))))))
noncomputable def m_Rows_stops : Fn := fnB 1 1 ((sRt (eF dictF (aC (eSlt "own_stops" [("Rows", 2)] (eV 0)) aN))))
theorem b_Rows_stops (e : En P w K mg base ga) : Binds K (fdA K (pg K ga "Rows" "stops")) ["self"] [] := e.f_Rows_stops.bindsN fun _ _ _ _ _ _ us hl => match us, hl with | [_], _ => rfl
theorem w_Rows_stops (e : En P w K mg base ga) : FnM P w K mg base ga 1 (pg K ga "Rows" "stops") (fdA K (pg K ga "Rows" "stops")) ["self"] m_Rows_stops := by
  exact fn_ok e.f_Rows_stops sc_Rows_stops (fun cdv A outer s H E hgd hr => (fs_one (fs_ret (fe_T (cr_dict rfl) dictL rfl e.b_dict boot_t_dict (fa_cons (fe_slt e.sl_own_stops (fe_n 0) rfl) fa_nil)))))
noncomputable def m__law_draw : Fn := fnB 2 3 ((sSeq (sIf (tOp2 gtF (eOp ixF (eV 0) (eC (.int 0))) (eC (.int 0))) (sSeq (sAs (eOp modF (eF intF (aC (eOp ixF (eV 0) (eC (.int 0))) aN)) (eV 1)) (gN 2))
    (sSeq (sAs (eOp fdivF (eOp ixF (eV 0) (eC (.int 0))) (eV 1)) (gSb (eV 0) (eC (.int 0))))
    (sRt (eV 2)))) sN)
    (sSeq (sAs (eOp modF (eF intF (aC (eOp addF (eOp mulBF (eOp ixF (eV 0) (eC (.int 1))) (eC (.int 48271))) (eC (.int 11))) aN)) (eC (.int 2147483647))) (gSb (eV 0) (eC (.int 1))))
    (sRt (eOp modF (eOp fdivF (eOp modF (eF intF (aC (eOp mulBF (eOp ixF (eV 0) (eC (.int 1))) (eOp ixF (eV 0) (eC (.int 1)))) aN)) (eC (.int 2147483629))) (eC (.int 64))) (eV 1))))))
theorem l__law_draw : ∀ xs L, xs.length ≠ 2 → m__law_draw xs L = .no := fnB_len
theorem b__law_draw (e : En P w K mg base ga) : Binds K (fdA K (ga "_law_draw")) ["_law_pool_here", "_law_many"] [] := e.f__law_draw.bindsN fun _ _ _ _ _ _ us hl => match us, hl with | [_, _], _ => rfl
theorem w__law_draw (e : En P w K mg base ga) : FnM P w K mg base ga 1 (ga "_law_draw") (fdA K (ga "_law_draw")) ["_law_pool_here", "_law_many"] m__law_draw := by
  exact fn_ok e.f__law_draw sc__law_draw (fun cdv A outer s H E hgd hr => (fs_cons (fs_if (ft_cmp op_gt gtL (fe_ix (u1 hr) (fe_n 0) fe_int (fun _ _ => rfl)) fe_int (nomark _)) (fs_cons (fs_set (i := 2) sc__law_draw.nd rfl (by first | exact Or.inl rfl | exact Or.inr rfl) (fe_op op_mod modL (fe_T call_int1 intL rfl e.b_int boot_t_int (fa_cons (fe_ix (u1 hr) (fe_n 0) fe_int (fun _ _ => rfl)) fa_nil)) (fe_n 1)))
      (fs_cons (fs_asg (fe_op op_fdivW fdivL (fe_ix (u1 hr) (fe_n 0) fe_int (fun _ _ => rfl)) (fe_n 1)) (fg_sub (W := W0) (u1 hr) (fe_n 0) fe_int))
      (fs_one (fs_ret (fe_n 2))))) fs_nil)
      (fs_cons (fs_asg (fe_op op_mod modL (fe_T call_int1 intL rfl e.b_int boot_t_int (fa_cons (fe_op op_addA addL (fe_op op_mulB mulBL (fe_ix (u1 hr) (fe_n 0) fe_int (fun _ _ => rfl)) fe_int) fe_int) fa_nil)) fe_int) (fg_sub (W := W0) (u1 hr) (fe_n 0) fe_int))
      (fs_one (fs_ret (fe_op op_mod modL (fe_op op_fdivW fdivL (fe_op op_mod modL (fe_T call_int1 intL rfl e.b_int boot_t_int (fa_cons (fe_op op_mulB mulBL (fe_ix (u1 hr) (fe_n 0) fe_int (fun _ _ => rfl)) (fe_ix (u1 hr) (fe_n 0) fe_int (fun _ _ => rfl))) fa_nil)) fe_int) fe_int) (fe_n 1)))))))
noncomputable def m__law_drawn : Fn := fnB 1 2 ((sRt (eF dictF (aC (eNew (vC (iR1 (aC (eF m__law_draw (aC (eV 0) (aC (eC (.int 5)) aN))) aN)) (gN 1) tY (eT (aC (eF m__law_draw (aC (eV 0) (aC (eC (.int 30)) aN))) (aC (eOp subF (eF m__law_draw (aC (eV 0) (aC (eC (.int 40)) aN))) (eC (.int 9))) aN))) [1])) aN))))
theorem l__law_drawn : ∀ xs L, xs.length ≠ 1 → m__law_drawn xs L = .no := fnB_len
theorem b__law_drawn (e : En P w K mg base ga) : Binds K (fdA K (ga "_law_drawn")) ["_law_pool_here"] [] := e.f__law_drawn.bindsN fun _ _ _ _ _ _ us hl => match us, hl with | [_], _ => rfl
theorem w__law_drawn (e : En P w K mg base ga) : FnM P w K mg base ga 2 (ga "_law_drawn") (fdA K (ga "_law_drawn")) ["_law_pool_here"] m__law_drawn := by
  exact fn_ok e.f__law_drawn sc__law_drawn (fun cdv A outer s H E hgd hr => (fs_one (fs_ret (fe_T (cr_dict rfl) dictL rfl e.b_dict boot_t_dict (fa_cons (fe_ofV (fv_lc (ow := [("_law_turn", 1)]) rfl sc__law_drawn.nd (fi_range1 rfl e.b_range (fa_cons (fe_call (dfn (w__law_draw e) (b__law_draw e) e.f__law_draw.kp l__law_draw (by exact deep_gd hgd) hr) (tk_of (takes_of rfl rfl rfl rfl)) rfl e.m__law_draw (fa_cons (fe_n 0) (fa_cons fe_int fa_nil))) fa_nil)) (blkOk_by (N := ["_law_pool_here", "_law_turn"]) (sc := defScope s__law_drawn) (by decide +kernel)) (fun _ _ _ _ _ => (fgo_name (i := 1) (by decide) sc__law_drawn.nd rfl (Or.inl rfl) (.inr rfl))) (fun _ _ _ _ _ => fts_nil) (fun _ _ _ _ _ => (fe_tup (fa_cons (fe_call (dfn (w__law_draw e) (b__law_draw e) e.f__law_draw.kp l__law_draw (by exact deep_gd hgd) hr) tk_0 rfl e.m__law_draw (fa_cons (fe_n 0) (fa_cons fe_int fa_nil))) (fa_cons (fe_op op_sub subL (fe_call (dfn (w__law_draw e) (b__law_draw e) e.f__law_draw.kp l__law_draw (by exact deep_gd hgd) hr) tk_0 rfl e.m__law_draw (fa_cons (fe_n 0) (fa_cons fe_int fa_nil))) fe_int) fa_nil)))))) fa_nil)))))
noncomputable def m__law_pool : Fn := fnB 2 4 ((sSeq (sAs (eC (.int 0)) (gN 2))
    (sSeq (sIf (gcT2 (tOp2 ltF (eV 1) (eF lenF (aC (eV 0) aN)))) (sAs (eOp ixF (eV 0) (eV 1)) (gN 2)) sN)
    (sSeq (sAs (eOp modF (eOp powF (eOp addF (eOp addF (eOp modF (eF intF (aC (eV 2) aN)) (eC (.int 2147483629))) (eOp mulBF (eOp mulBF (eC (.int 7919)) (eV 1)) (eV 1))) (eC (.int 31))) (eC (.int 3))) (eC (.int 2147483647))) (gN 3))
    (sSeq (sIf (tOp2 ltF (eV 2) (eOp powF (eC (.int 10)) (eC (.int 18)))) (sAs (eC (.int 0)) (gN 2)) sN)
    (sRt (eNew (vL (aC (eV 2) (aC (eV 3) aN))))))))))
theorem l__law_pool : ∀ xs L, xs.length ≠ 2 → m__law_pool xs L = .no := fnB_len
theorem b__law_pool (e : En P w K mg base ga) : Binds K (fdA K (ga "_law_pool")) ["_law_script", "_law_k"] [] := e.f__law_pool.bindsN fun _ _ _ _ _ _ us hl => match us, hl with | [_, _], _ => rfl
theorem w__law_pool (e : En P w K mg base ga) : FnM P w K mg base ga 1 (ga "_law_pool") (fdA K (ga "_law_pool")) ["_law_script", "_law_k"] m__law_pool := by
  exact fn_ok e.f__law_pool sc__law_pool (fun cdv A outer s H E hgd hr => (fs_cons (fs_set (i := 2) sc__law_pool.nd rfl (by first | exact Or.inl rfl | exact Or.inr rfl) fe_int)
      (fs_cons (fs_if (ft_gc2 (ft_cmp op_lt ltL (fe_n 1) (fe_B cr_lenA lenL rfl e.b_len boot_b_len (fa_cons (fe_n 0) fa_nil)) (nomark _))) (fs_one (fs_set (i := 2) sc__law_pool.nd rfl (by first | exact Or.inl rfl | exact Or.inr rfl) (fe_ix (u1 hr) (fe_n 0) (fe_n 1) (fun _ _ => rfl)))) fs_nil)
      (fs_cons (fs_set (i := 3) sc__law_pool.nd rfl (by first | exact Or.inl rfl | exact Or.inr rfl) (fe_op op_mod modL (fe_op op_pow powL (fe_op op_addA addL (fe_op op_addA addL (fe_op op_mod modL (fe_T call_int1 intL rfl e.b_int boot_t_int (fa_cons (fe_n 2) fa_nil)) fe_int) (fe_op op_mulB mulBL (fe_op op_mulB mulBL fe_int (fe_n 1)) (fe_n 1))) fe_int) fe_int) fe_int))
      (fs_cons (fs_if (ft_cmp op_lt ltL (fe_n 2) (fe_op op_pow powL fe_int fe_int) (nomark _)) (fs_one (fs_set (i := 2) sc__law_pool.nd rfl (by first | exact Or.inl rfl | exact Or.inr rfl) fe_int)) fs_nil)
      (fs_one (fs_ret (fe_ofV (fv_lst (fa_cons (fe_n 2) (fa_cons (fe_n 3) fa_nil)))))))))))
noncomputable def m__law_told : Fn := gcF (fnB 1 2 ((sTry KNOWN (("InvalidRows", 1, fun fs => (sRt (eF reprAF (aC (eX fs "value") aN)))) :: []) (sSeq (sEx (eMk "Rows" 3 0 m_Rows_init gP_Rows_3 (aC (eOp ixF (eV 0) (eC (.int 0))) (aC (eOp ixF (eV 0) (eC (.int 1))) (aC (eOp ixF (eV 0) (eC (.int 2))) aN))) aN))
    (sRt (eC (.str "made")))))))
theorem l__law_told : ∀ xs L, xs.length ≠ 1 → m__law_told xs L = .no := gcF_len fnB_len
theorem b__law_told (e : En P w K mg base ga) : Binds K (fdA K (ga "_law_told")) ["_law_some"] [] := e.f__law_told.bindsN fun _ _ _ _ _ _ us hl => match us, hl with | [_], _ => rfl
theorem w__law_told (e : En P w K mg base ga) : FnM P w K mg base ga 6 (ga "_law_told") (fdA K (ga "_law_told")) ["_law_some"] m__law_told := by
  exact fn_gc (fn_ok e.f__law_told sc__law_told (fun cdv A outer s H E hgd hr => (fs_one (fs_try (known := KNOWN) rfl rfl sc__law_told.nd (takes_of rfl rfl rfl rfl) (fun W pn xe tk po => (fs_cons (fs_expr (fe_mk (ini e.i_Rows (w_Rows_init e) (bf_Rows_3 e) l_Rows_init (by exact deep_gd hgd) hr) (tk_of tk) rfl e.m_Rows (fa_cons (fe_ix (u1 hr) (fe_n 0) fe_int (fun _ _ => rfl)) (fa_cons (fe_ix (u1 hr) (fe_n 0) fe_int (fun _ _ => rfl)) (fa_cons (fe_ix (u1 hr) (fe_n 0) fe_int (fun _ _ => rfl)) fa_nil))) fk_nil))
      (fs_one (fs_ret fe_str))))
      (.cons (i := 1) ⟨rfl, by decide, .inl (e.x_InvalidRows).c.gC⟩ rfl rfl rfl (kn_InvalidRows e) (fun a oe d pn fs hz hf => (fs_one (fs_ret (fe_B (call_reprA (mark_gd (by exact deep_gd hgd)) (mark_u (u64 hr))) reprAL rfl e.b_repr boot_b_repr (fa_cons (fe_x (e.x_InvalidRows).xf e.n_InvalidRows_value hz hf rfl (Or.inl rfl)) fa_nil))))) .nil)))))
noncomputable def m_law : Fn := fnB 1 14 ((sSeq (sFor (iR1 (aC (eF max2F (aC (eC (.int 1)) (aC (eF min2F (aC (eF lenF (aC (eV 0) aN)) (aC (eC (.int 8)) aN))) aN))) aN)) (gN 1) (gcS [0] (sSeq (sAs (eF m__law_pool (aC (eV 0) (aC (eV 1) aN))) (gN 2))
    (sSeq (sPar [3, 4] (aC (eNew (vC (iR1 (aC (eC (.int 3)) aN)) (gN 5) tY (eF m__law_drawn (aC (eV 2) aN)) [5])) (aC (eNew (vC (iR1 (aC (eC (.int 3)) aN)) (gN 5) tY (eF m__law_drawn (aC (eV 2) aN)) [5])) aN)))
    (sSeq (sAs (eNew (vC (iA (eV 3)) (gN 7) tY (eF dictF (aC (eRev (eIs (eV 7)) (oS (eUn negF (eC (.int 1))))) aN)) [7])) (gN 6))
    (sSeq (sAs (eMk "Rows" 3 0 m_Rows_init gP_Rows_3 (aC (eOp ixF (eV 6) (eC (.int 0))) (aC (eOp ixF (eV 6) (eC (.int 1))) (aC (eOp ixF (eV 6) (eC (.int 2))) aN))) aN) (gN 8))
    (sSeq (sFor (iA (eOp addF (eV 6) (eNew (vL (aC (eAt "answers" [] [("Rows", m_Rows_answers)] (eV 8)) (aC (eAt "fails" [] [("Rows", m_Rows_fails)] (eV 8)) (aC (eAt "stops" [] [("Rows", m_Rows_stops)] (eV 8)) aN))))))) (gN 7) (sEx (eBm isDc clearDF (eV 7) aN)))
    (sSeq (sIf (tOp2 (neAF NF [("Rows", m_Rows_eq)]) (eNew (vL (aC (eAt "answers" [] [("Rows", m_Rows_answers)] (eV 8)) (aC (eAt "fails" [] [("Rows", m_Rows_fails)] (eV 8)) (aC (eAt "stops" [] [("Rows", m_Rows_stops)] (eV 8)) aN))))) (eV 3)) (sRt (eC (.bl false))) sN)
    (sSeq (sAs (eOp addF (eVs (eOp ixF (eV 3) (eC (.int 0)))) (eVs (eOp ixF (eV 3) (eC (.int 1))))) (gN 9))
    (sSeq (sIf (gcT2 (tOp2 (ownEqF true NF [("Rows", m_Rows_eq)]) (eMe "greatest" [("Rows", m_Rows_greatest)] (eV 8) aN) (eIf (tOp2 (neAF NF [("Rows", m_Rows_eq)]) (eV 9) (eNew (vL aN))) (eQ maxF (qL (eV 9))) (eC .non)))) (sRt (eC (.bl false))) sN)
    (sSeq (sIf (gcT2 (tOp2 (ownEqF true NF [("Rows", m_Rows_eq)]) (eOp (eqAF NF [("Rows", m_Rows_eq)]) (eV 8) (eMk "Rows" 3 0 m_Rows_init gP_Rows_3 (aC (eOp ixF (eV 4) (eC (.int 0))) (aC (eOp ixF (eV 4) (eC (.int 1))) (aC (eOp ixF (eV 4) (eC (.int 2))) aN))) aN)) (eOp (eqAF NF [("Rows", m_Rows_eq)]) (eV 3) (eV 4)))) (sRt (eC (.bl false))) sN)
    (sSeq (sIf (gcT2 (tOp2 (ownEqF true NF [("Rows", m_Rows_eq)]) (eV 8) (eMk "Rows" 3 0 m_Rows_init gP_Rows_3 (aC (eOp ixF (eV 3) (eC (.int 0))) (aC (eOp ixF (eV 3) (eC (.int 1))) (aC (eOp ixF (eV 3) (eC (.int 2))) aN))) aN))) (sRt (eC (.bl false))) sN)
    (sSeq (sFor (iR1 (aC (eC (.int 3)) aN)) (gN 10) (sSeq (sAs (eNew (vC (iA (eV 3)) (gN 7) tY (eF dictF (aC (eV 7) aN)) [7])) (gN 11))
    (sSeq (sAs (eC (.int 1)) (gSb (eOp ixF (eV 11) (eV 10)) (eC (.int 40))))
    (sSeq (sIf (gcT2 (tOp2 (eqAF NF [("Rows", m_Rows_eq)]) (eV 8) (eMk "Rows" 0 3 m_Rows_init gP_Rows_0_stops_fails_answers aN (aC (eOp ixF (eV 11) (eC (.int 2))) (aC (eOp ixF (eV 11) (eC (.int 1))) (aC (eOp ixF (eV 11) (eC (.int 0))) aN)))))) (sRt (eC (.bl false))) sN)
    (sIf (tNot (tOp2 (neAF NF [("Rows", m_Rows_eq)]) (eV 8) (eV 3))) (sRt (eC (.bl false))) sN)))))
    (sSeq (sAs (eNew (vL (aC (eC .non) (aC (eC (.int 5)) (aC (eNew (vL aN)) (aC (eNew (vL (aC (eT (aC (eC (.int 1)) (aC (eC (.int 1)) aN))) aN))) (aC (eD1 (eUn negF (eC (.int 1))) (eC (.int 2))) (aC (eOdd (eC (.bl true)) (eC (.int 2))) (aC (eDs ["1"] (aC (eC (.int 2)) aN)) (aC (eOdd (eC .non) (eC (.int 1))) (aC (eD1 (eC (.int 1)) (eC .non)) (aC (eD1 (eC (.int 1)) (eC (.bl true))) (aC (eD1 (eC (.int 2)) (eC (.str "5"))) (aC (eOddT (eT (aC (eC (.int 1)) aN)) (eC (.int 1))) aN)))))))))))))) (gN 12))
    (sFor (iA (eV 12)) (gN 13) (sSeq (sAs (eF m__law_draw (aC (eV 2) (aC (eC (.int 3)) aN))) (gN 10))
    (sIf (gcT2 (tOp2 (ownEqF true NF [("Rows", m_Rows_eq)]) (eF m__law_told (aC (eOp addF (eOp addF (eSl (eV 3) oN (oS (eV 10))) (eNew (vL (aC (eV 13) aN)))) (eNew (vL (aC (eC .non) (aC (eC .non) aN))))) aN)) (eF reprAF (aC (eV 13) aN)))) (sRt (eC (.bl false))) sN)))))))))))))))))
    (sRt (eC (.bl true)))))
theorem w_law (e : En P w K mg base ga) : FnM P w K mg base ga 7 (ga "law") (fdA K (ga "law")) ["_law_script"] m_law := by
  exact fn_ok e.f_law sc_law (fun cdv A outer s H E hgd hr => (fs_cons (fs_for (passes_of rfl) rfl (fi_range1 rfl e.b_range (fa_cons (fe_B (call_max2 rfl) max2L rfl e.b_max boot_b_max (fa_cons fe_int (fa_cons (fe_B (call_min2 rfl) min2L rfl e.b_min boot_b_min (fa_cons (fe_B cr_lenA lenL rfl e.b_len boot_b_len (fa_cons (fe_n 0) fa_nil)) (fa_cons fe_int fa_nil))) fa_nil))) fa_nil)) (fg_name (i := 1) sc_law.nd rfl (by first | exact Or.inl rfl | exact Or.inr rfl))
        (fss_gc [0] (fs_cons (fs_set (i := 2) sc_law.nd rfl (Or.inr rfl) (fe_call (dfn (w__law_pool e) (b__law_pool e) e.f__law_pool.kp l__law_pool (by exact deep_gd hgd) hr) (tk_of (takes_of rfl rfl rfl rfl)) rfl e.m__law_pool (fa_cons (fe_n 0) (fa_cons (fe_n 1) fa_nil))))
      (fs_cons (fs_par (i := 3) (j := 4) rfl sc_law.nd rfl rfl (by decide) rfl rfl (fa_cons (fe_ofV (fv_lc (ow := [("_law_turn", 5)]) rfl sc_law.nd (fi_range1 rfl e.b_range (fa_cons fe_int fa_nil)) (blkOk_by (N := ["_law_script", "_law_k", "_law_pool_here", "_law_some", "_law_others", "_law_turn", "_law_handed", "_law_one", "_law_rows", "_law_known", "_law_at", "_law_bent", "_law_bad", "_law_thing"]) (sc := defScope s_law) (by decide +kernel)) (fun _ _ _ _ _ => (fgo_name (i := 5) (by decide) sc_law.nd rfl (Or.inl rfl) (.inr rfl))) (fun _ _ _ _ _ => fts_nil) (fun _ _ _ _ _ => (fe_call (dfn (w__law_drawn e) (b__law_drawn e) e.f__law_drawn.kp l__law_drawn (by exact deep_gd hgd) hr) tk_0 rfl e.m__law_drawn (fa_cons (fe_n 2) fa_nil))))) (fa_cons (fe_ofV (fv_lc (ow := [("_law_turn", 5)]) rfl sc_law.nd (fi_range1 rfl e.b_range (fa_cons fe_int fa_nil)) (blkOk_by (N := ["_law_script", "_law_k", "_law_pool_here", "_law_some", "_law_others", "_law_turn", "_law_handed", "_law_one", "_law_rows", "_law_known", "_law_at", "_law_bent", "_law_bad", "_law_thing"]) (sc := defScope s_law) (by decide +kernel)) (fun _ _ _ _ _ => (fgo_name (i := 5) (by decide) sc_law.nd rfl (Or.inl rfl) (.inr rfl))) (fun _ _ _ _ _ => fts_nil) (fun _ _ _ _ _ => (fe_call (dfn (w__law_drawn e) (b__law_drawn e) e.f__law_drawn.kp l__law_drawn (by exact deep_gd hgd) hr) tk_0 rfl e.m__law_drawn (fa_cons (fe_n 2) fa_nil))))) fa_nil)) (by rfl))
      (fs_cons (fs_setLc (i := 6) (ow := [("_law_one", 7)]) rfl sc_law.nd rfl rfl rfl (fi_a (fe_n 3)) (blkOk_by (N := ["_law_script", "_law_k", "_law_pool_here", "_law_some", "_law_others", "_law_turn", "_law_handed", "_law_one", "_law_rows", "_law_known", "_law_at", "_law_bent", "_law_bad", "_law_thing"]) (sc := defScope s_law) (by decide +kernel)) (fun _ _ _ _ _ => (fgo_name (i := 7) (by decide) sc_law.nd rfl (Or.inl rfl) (.inr rfl))) (fun _ _ _ _ _ => fts_nil) (fun _ _ _ _ _ => (fe_T (cr_dict rfl) dictL rfl e.b_dict boot_t_dict (fa_cons (fe_rev (fe_listI rfl rfl e.b_list (fe_n 7)) (fo_some (fe_un un_neg negL fe_int))) fa_nil))))
      (fs_cons (fs_set (i := 8) sc_law.nd rfl (by first | exact Or.inl rfl | exact Or.inr rfl) (fe_mk (ini e.i_Rows (w_Rows_init e) (bf_Rows_3 e) l_Rows_init (by exact deep_gd hgd) hr) (tk_of (takes_of rfl rfl rfl rfl)) rfl e.m_Rows (fa_cons (fe_ix (u1 hr) (fe_n 6) fe_int (fun _ _ => rfl)) (fa_cons (fe_ix (u1 hr) (fe_n 6) fe_int (fun _ _ => rfl)) (fa_cons (fe_ix (u1 hr) (fe_n 6) fe_int (fun _ _ => rfl)) fa_nil))) fk_nil))
      (fs_cons (fs_for (passes_of rfl) rfl (fi_a (fe_op op_addA addL (fe_n 6) (fe_ofV (fv_lst (fa_cons (fe_at (cs := []) (ps := [("Rows", m_Rows_answers)]) (fun C h => by cases h) (ps_cons (prpS e.k_Rows e.p_Rows_answers (w_Rows_answers e) (b_Rows_answers e) (by exact deep_gd hgd) hr) ps_nil) (fe_n 8) rfl) (fa_cons (fe_at (cs := []) (ps := [("Rows", m_Rows_fails)]) (fun C h => by cases h) (ps_cons (prpS e.k_Rows e.p_Rows_fails (w_Rows_fails e) (b_Rows_fails e) (by exact deep_gd hgd) hr) ps_nil) (fe_n 8) rfl) (fa_cons (fe_at (cs := []) (ps := [("Rows", m_Rows_stops)]) (fun C h => by cases h) (ps_cons (prpS e.k_Rows e.p_Rows_stops (w_Rows_stops e) (b_Rows_stops e) (by exact deep_gd hgd) hr) ps_nil) (fe_n 8) rfl) fa_nil))))))) (fg_name (i := 7) sc_law.nd rfl (by first | exact Or.inl rfl | exact Or.inr rfl))
        (fs_one (fs_expr (fe_bm0 PySem.F.plainAttrs_dict PySem.F.slot_dict_clear PySem.F.type_dict_clear mtd_clear clearDL ty_dc (fe_n 7)))))
      (fs_cons (fs_if (ft_cmp (op_neAll (Z := Zo ga) (nf := NF) (ms := [("Rows", m_Rows_eq)]) (eo_cons (eqo e.q_Rows_eq.at_ e.q_Rows_eq.fn (w_Rows_eq e) (b_Rows_eq e) e.ne_Rows e.ob_Rows e.nf_Rows l_Rows_eq (by exact deep_gd hgd) hr) eo_nil) (u66 hr)) neAllL (fe_ofV (fv_lst (fa_cons (fe_at (cs := []) (ps := [("Rows", m_Rows_answers)]) (fun C h => by cases h) (ps_cons (prpS e.k_Rows e.p_Rows_answers (w_Rows_answers e) (b_Rows_answers e) (by exact deep_gd hgd) hr) ps_nil) (fe_n 8) rfl) (fa_cons (fe_at (cs := []) (ps := [("Rows", m_Rows_fails)]) (fun C h => by cases h) (ps_cons (prpS e.k_Rows e.p_Rows_fails (w_Rows_fails e) (b_Rows_fails e) (by exact deep_gd hgd) hr) ps_nil) (fe_n 8) rfl) (fa_cons (fe_at (cs := []) (ps := [("Rows", m_Rows_stops)]) (fun C h => by cases h) (ps_cons (prpS e.k_Rows e.p_Rows_stops (w_Rows_stops e) (b_Rows_stops e) (by exact deep_gd hgd) hr) ps_nil) (fe_n 8) rfl) fa_nil))))) (fe_n 3) (nomark _)) (fs_one (fs_ret fe_bl)) fs_nil)
      (fs_cons (fs_set (i := 9) sc_law.nd rfl (by first | exact Or.inl rfl | exact Or.inr rfl) (fe_op op_addA addL (fe_listV rfl rfl e.b_list (fe_ix (u1 hr) (fe_n 3) fe_int (fun _ _ => rfl))) (fe_listV rfl rfl e.b_list (fe_ix (u1 hr) (fe_n 3) fe_int (fun _ _ => rfl)))))
      (fs_cons (fs_if (ft_gc2 (ft_cmp (op_neO (Z := Zo ga) (nf := NF) (ms := [("Rows", m_Rows_eq)]) (eo_cons (eqo e.q_Rows_eq.at_ e.q_Rows_eq.fn (w_Rows_eq e) (b_Rows_eq e) e.ne_Rows e.ob_Rows e.nf_Rows l_Rows_eq (by exact deep_gd hgd) hr) eo_nil) (u64 hr)) neOL (fe_me0 (ms := [("Rows", m_Rows_greatest)]) (ms_cons (FL.mtS e.k_Rows e.q_Rows_greatest (dfn (w_Rows_greatest e) (b_Rows_greatest e) e.f_Rows_greatest.kp l_Rows_greatest (by exact deep_gd hgd) hr)) ms_nil) (tk_of (takes_of rfl rfl rfl rfl)) (fe_n 8)) (fe_if (ft_cmp (op_neAll (Z := Zo ga) (nf := NF) (ms := [("Rows", m_Rows_eq)]) (eo_cons (eqo e.q_Rows_eq.at_ e.q_Rows_eq.fn (w_Rows_eq e) (b_Rows_eq e) e.ne_Rows e.ob_Rows e.nf_Rows l_Rows_eq (by exact deep_gd hgd) hr) eo_nil) (u66 hr)) neAllL (fe_n 9) (fe_ofV (fv_lst fa_nil)) (nomark _)) (fe_Bq (cr_max rfl) maxLL rfl e.b_max boot_b_max (fl_ofE (fe_n 9))) fe_non) (nomark _))) (fs_one (fs_ret fe_bl)) fs_nil)
      (fs_cons (fs_if (ft_gc2 (ft_cmp (op_neO (Z := Zo ga) (nf := NF) (ms := [("Rows", m_Rows_eq)]) (eo_cons (eqo e.q_Rows_eq.at_ e.q_Rows_eq.fn (w_Rows_eq e) (b_Rows_eq e) e.ne_Rows e.ob_Rows e.nf_Rows l_Rows_eq (by exact deep_gd hgd) hr) eo_nil) (u64 hr)) neOL (fe_cmp (op_eqAll (Z := Zo ga) (nf := NF) (ms := [("Rows", m_Rows_eq)]) (eo_cons (eqo e.q_Rows_eq.at_ e.q_Rows_eq.fn (w_Rows_eq e) (b_Rows_eq e) e.ne_Rows e.ob_Rows e.nf_Rows l_Rows_eq (by exact deep_gd hgd) hr) eo_nil) (u66 hr)) eqAllL (fe_n 8) (fe_mk (ini e.i_Rows (w_Rows_init e) (bf_Rows_3 e) l_Rows_init (by exact deep_gd hgd) hr) (tk_of (takes_of rfl rfl rfl rfl)) rfl e.m_Rows (fa_cons (fe_ix (u1 hr) (fe_n 4) fe_int (fun _ _ => rfl)) (fa_cons (fe_ix (u1 hr) (fe_n 4) fe_int (fun _ _ => rfl)) (fa_cons (fe_ix (u1 hr) (fe_n 4) fe_int (fun _ _ => rfl)) fa_nil))) fk_nil) (nomark _)) (fe_cmp (op_eqAll (Z := Zo ga) (nf := NF) (ms := [("Rows", m_Rows_eq)]) (eo_cons (eqo e.q_Rows_eq.at_ e.q_Rows_eq.fn (w_Rows_eq e) (b_Rows_eq e) e.ne_Rows e.ob_Rows e.nf_Rows l_Rows_eq (by exact deep_gd hgd) hr) eo_nil) (u66 hr)) eqAllL (fe_n 3) (fe_n 4) (nomark _)) (nomark _))) (fs_one (fs_ret fe_bl)) fs_nil)
      (fs_cons (fs_if (ft_gc2 (ft_cmp (op_neO (Z := Zo ga) (nf := NF) (ms := [("Rows", m_Rows_eq)]) (eo_cons (eqo e.q_Rows_eq.at_ e.q_Rows_eq.fn (w_Rows_eq e) (b_Rows_eq e) e.ne_Rows e.ob_Rows e.nf_Rows l_Rows_eq (by exact deep_gd hgd) hr) eo_nil) (u64 hr)) neOL (fe_n 8) (fe_mk (ini e.i_Rows (w_Rows_init e) (bf_Rows_3 e) l_Rows_init (by exact deep_gd hgd) hr) (tk_of (takes_of rfl rfl rfl rfl)) rfl e.m_Rows (fa_cons (fe_ix (u1 hr) (fe_n 3) fe_int (fun _ _ => rfl)) (fa_cons (fe_ix (u1 hr) (fe_n 3) fe_int (fun _ _ => rfl)) (fa_cons (fe_ix (u1 hr) (fe_n 3) fe_int (fun _ _ => rfl)) fa_nil))) fk_nil) (nomark _))) (fs_one (fs_ret fe_bl)) fs_nil)
      (fs_cons (fs_for (passes_of rfl) rfl (fi_range1 rfl e.b_range (fa_cons fe_int fa_nil)) (fg_name (i := 10) sc_law.nd rfl (by first | exact Or.inl rfl | exact Or.inr rfl))
        (fs_cons (fs_setLc (i := 11) (ow := [("_law_one", 7)]) rfl sc_law.nd rfl rfl rfl (fi_a (fe_n 3)) (blkOk_by (N := ["_law_script", "_law_k", "_law_pool_here", "_law_some", "_law_others", "_law_turn", "_law_handed", "_law_one", "_law_rows", "_law_known", "_law_at", "_law_bent", "_law_bad", "_law_thing"]) (sc := defScope s_law) (by decide +kernel)) (fun _ _ _ _ _ => (fgo_name (i := 7) (by decide) sc_law.nd rfl (Or.inl rfl) (.inr rfl))) (fun _ _ _ _ _ => fts_nil) (fun _ _ _ _ _ => (fe_T (cr_dict rfl) dictL rfl e.b_dict boot_t_dict (fa_cons (fe_n 7) fa_nil))))
      (fs_cons (fs_asg fe_int (fg_sub (W := W0) (u1 hr) (fe_ix (u1 hr) (fe_n 11) (fe_n 10) (fun _ _ => rfl)) fe_int))
      (fs_cons (fs_if (ft_gc2 (ft_cmp (op_eqAll (Z := Zo ga) (nf := NF) (ms := [("Rows", m_Rows_eq)]) (eo_cons (eqo e.q_Rows_eq.at_ e.q_Rows_eq.fn (w_Rows_eq e) (b_Rows_eq e) e.ne_Rows e.ob_Rows e.nf_Rows l_Rows_eq (by exact deep_gd hgd) hr) eo_nil) (u66 hr)) eqAllL (fe_n 8) (fe_mk0 (ini e.i_Rows (w_Rows_init e) (bf_Rows_0_stops_fails_answers e) l_Rows_init (by exact deep_gd hgd) hr) (tk_of (takes_of rfl rfl rfl rfl)) rfl e.m_Rows (fk_cons (fe_ix (u1 hr) (fe_n 11) fe_int (fun _ _ => rfl)) (fk_cons (fe_ix (u1 hr) (fe_n 11) fe_int (fun _ _ => rfl)) (fk_cons (fe_ix (u1 hr) (fe_n 11) fe_int (fun _ _ => rfl)) fk_nil)))) (nomark _))) (fs_one (fs_ret fe_bl)) fs_nil)
      (fs_one (fs_if (ft_not (ft_cmp (op_neAll (Z := Zo ga) (nf := NF) (ms := [("Rows", m_Rows_eq)]) (eo_cons (eqo e.q_Rows_eq.at_ e.q_Rows_eq.fn (w_Rows_eq e) (b_Rows_eq e) e.ne_Rows e.ob_Rows e.nf_Rows l_Rows_eq (by exact deep_gd hgd) hr) eo_nil) (u66 hr)) neAllL (fe_n 8) (fe_n 3) (nomark _))) (fs_one (fs_ret fe_bl)) fs_nil))))))
      (fs_cons (fs_set (i := 12) sc_law.nd rfl (by first | exact Or.inl rfl | exact Or.inr rfl) (fe_ofV (fv_lst (fa_cons fe_non (fa_cons fe_int (fa_cons (fe_ofV (fv_lst fa_nil)) (fa_cons (fe_ofV (fv_lst (fa_cons (fe_tup (fa_cons fe_int (fa_cons fe_int fa_nil))) fa_nil))) (fa_cons (fe_disp1 (fe_un un_neg negL fe_int) fe_int) (fa_cons (fe_odd fe_bl fe_int) (fa_cons (fe_disp (fps_cons fe_int fps_nil) rfl rfl (by simp) (by decide) (by decide)) (fa_cons (fe_odd fe_non fe_int) (fa_cons (fe_disp1 fe_int fe_non) (fa_cons (fe_disp1 fe_int fe_bl) (fa_cons (fe_disp1 fe_int fe_str) (fa_cons (fe_oddT (u64 hr) (fe_tup (fa_cons fe_int fa_nil)) fe_int) fa_nil)))))))))))))))
      (fs_one (fs_for (passes_of rfl) rfl (fi_a (fe_n 12)) (fg_name (i := 13) sc_law.nd rfl (by first | exact Or.inl rfl | exact Or.inr rfl))
        (fs_cons (fs_set (i := 10) sc_law.nd rfl (by first | exact Or.inl rfl | exact Or.inr rfl) (fe_call (dfn (w__law_draw e) (b__law_draw e) e.f__law_draw.kp l__law_draw (by exact deep_gd hgd) hr) (tk_of (takes_of rfl rfl rfl rfl)) rfl e.m__law_draw (fa_cons (fe_n 2) (fa_cons fe_int fa_nil))))
      (fs_one (fs_if (ft_gc2 (ft_cmp (op_neO (Z := Zo ga) (nf := NF) (ms := [("Rows", m_Rows_eq)]) (eo_cons (eqo e.q_Rows_eq.at_ e.q_Rows_eq.fn (w_Rows_eq e) (b_Rows_eq e) e.ne_Rows e.ob_Rows e.nf_Rows l_Rows_eq (by exact deep_gd hgd) hr) eo_nil) (u64 hr)) neOL (fe_call (dfn (w__law_told e) (b__law_told e) e.f__law_told.kp l__law_told (by exact deep_gd hgd) hr) (tk_of (takes_of rfl rfl rfl rfl)) rfl e.m__law_told (fa_cons (fe_op op_addA addL (fe_op op_addA addL (fe_sl (fe_n 3) fo_none (fo_some (fe_n 10))) (fe_ofV (fv_lst (fa_cons (fe_n 13) fa_nil)))) (fe_ofV (fv_lst (fa_cons fe_non (fa_cons fe_non fa_nil))))) fa_nil)) (fe_B (call_reprA (by exact deep_gd hgd) (u64 hr)) reprAL rfl e.b_repr boot_b_repr (fa_cons (fe_n 13) fa_nil)) (nomark _))) (fs_one (fs_ret fe_bl)) fs_nil)))))))))))))))))))
      (fs_one (fs_ret fe_bl))))
end
noncomputable def b_0 : MS := (sAs (eF m__law_pool (aC (eV 0) (aC (eV 1) aN))) (gN 2))
noncomputable def b_1 : MS := (sPar [3, 4] (aC (eNew (vC (iR1 (aC (eC (.int 3)) aN)) (gN 5) tY (eF m__law_drawn (aC (eV 2) aN)) [5])) (aC (eNew (vC (iR1 (aC (eC (.int 3)) aN)) (gN 5) tY (eF m__law_drawn (aC (eV 2) aN)) [5])) aN)))
noncomputable def b_2 : MS := (sAs (eNew (vC (iA (eV 3)) (gN 7) tY (eF dictF (aC (eRev (eIs (eV 7)) (oS (eUn negF (eC (.int 1))))) aN)) [7])) (gN 6))
noncomputable def b_3 : MS := (sAs (eMk "Rows" 3 0 m_Rows_init gP_Rows_3 (aC (eOp ixF (eV 6) (eC (.int 0))) (aC (eOp ixF (eV 6) (eC (.int 1))) (aC (eOp ixF (eV 6) (eC (.int 2))) aN))) aN) (gN 8))
noncomputable def b_4 : MS := (sFor (iA (eOp addF (eV 6) (eNew (vL (aC (eAt "answers" [] [("Rows", m_Rows_answers)] (eV 8)) (aC (eAt "fails" [] [("Rows", m_Rows_fails)] (eV 8)) (aC (eAt "stops" [] [("Rows", m_Rows_stops)] (eV 8)) aN))))))) (gN 7) (sEx (eBm isDc clearDF (eV 7) aN)))
noncomputable def b_5 : MS := (sIf (tOp2 (neAF NF [("Rows", m_Rows_eq)]) (eNew (vL (aC (eAt "answers" [] [("Rows", m_Rows_answers)] (eV 8)) (aC (eAt "fails" [] [("Rows", m_Rows_fails)] (eV 8)) (aC (eAt "stops" [] [("Rows", m_Rows_stops)] (eV 8)) aN))))) (eV 3)) (sRt (eC (.bl false))) sN)
noncomputable def b_6 : MS := (sAs (eOp addF (eVs (eOp ixF (eV 3) (eC (.int 0)))) (eVs (eOp ixF (eV 3) (eC (.int 1))))) (gN 9))
noncomputable def b_7 : MS := (sIf (gcT2 (tOp2 (ownEqF true NF [("Rows", m_Rows_eq)]) (eMe "greatest" [("Rows", m_Rows_greatest)] (eV 8) aN) (eIf (tOp2 (neAF NF [("Rows", m_Rows_eq)]) (eV 9) (eNew (vL aN))) (eQ maxF (qL (eV 9))) (eC .non)))) (sRt (eC (.bl false))) sN)
noncomputable def b_8 : MS := (sIf (gcT2 (tOp2 (ownEqF true NF [("Rows", m_Rows_eq)]) (eOp (eqAF NF [("Rows", m_Rows_eq)]) (eV 8) (eMk "Rows" 3 0 m_Rows_init gP_Rows_3 (aC (eOp ixF (eV 4) (eC (.int 0))) (aC (eOp ixF (eV 4) (eC (.int 1))) (aC (eOp ixF (eV 4) (eC (.int 2))) aN))) aN)) (eOp (eqAF NF [("Rows", m_Rows_eq)]) (eV 3) (eV 4)))) (sRt (eC (.bl false))) sN)
noncomputable def b_9 : MS := (sIf (gcT2 (tOp2 (ownEqF true NF [("Rows", m_Rows_eq)]) (eV 8) (eMk "Rows" 3 0 m_Rows_init gP_Rows_3 (aC (eOp ixF (eV 3) (eC (.int 0))) (aC (eOp ixF (eV 3) (eC (.int 1))) (aC (eOp ixF (eV 3) (eC (.int 2))) aN))) aN))) (sRt (eC (.bl false))) sN)
noncomputable def b_10 : MS := (sFor (iR1 (aC (eC (.int 3)) aN)) (gN 10) (sSeq (sAs (eNew (vC (iA (eV 3)) (gN 7) tY (eF dictF (aC (eV 7) aN)) [7])) (gN 11))
    (sSeq (sAs (eC (.int 1)) (gSb (eOp ixF (eV 11) (eV 10)) (eC (.int 40))))
    (sSeq (sIf (gcT2 (tOp2 (eqAF NF [("Rows", m_Rows_eq)]) (eV 8) (eMk "Rows" 0 3 m_Rows_init gP_Rows_0_stops_fails_answers aN (aC (eOp ixF (eV 11) (eC (.int 2))) (aC (eOp ixF (eV 11) (eC (.int 1))) (aC (eOp ixF (eV 11) (eC (.int 0))) aN)))))) (sRt (eC (.bl false))) sN)
    (sIf (tNot (tOp2 (neAF NF [("Rows", m_Rows_eq)]) (eV 8) (eV 3))) (sRt (eC (.bl false))) sN)))))
noncomputable def b_11 : MS := (sAs (eNew (vL (aC (eC .non) (aC (eC (.int 5)) (aC (eNew (vL aN)) (aC (eNew (vL (aC (eT (aC (eC (.int 1)) (aC (eC (.int 1)) aN))) aN))) (aC (eD1 (eUn negF (eC (.int 1))) (eC (.int 2))) (aC (eOdd (eC (.bl true)) (eC (.int 2))) (aC (eDs ["1"] (aC (eC (.int 2)) aN)) (aC (eOdd (eC .non) (eC (.int 1))) (aC (eD1 (eC (.int 1)) (eC .non)) (aC (eD1 (eC (.int 1)) (eC (.bl true))) (aC (eD1 (eC (.int 2)) (eC (.str "5"))) (aC (eOddT (eT (aC (eC (.int 1)) aN)) (eC (.int 1))) aN)))))))))))))) (gN 12))
noncomputable def b_12 : MS := (sFor (iA (eV 12)) (gN 13) (sSeq (sAs (eF m__law_draw (aC (eV 2) (aC (eC (.int 3)) aN))) (gN 10))
    (sIf (gcT2 (tOp2 (ownEqF true NF [("Rows", m_Rows_eq)]) (eF m__law_told (aC (eOp addF (eOp addF (eSl (eV 3) oN (oS (eV 10))) (eNew (vL (aC (eV 13) aN)))) (eNew (vL (aC (eC .non) (aC (eC .non) aN))))) aN)) (eF reprAF (aC (eV 13) aN)))) (sRt (eC (.bl false))) sN)))
noncomputable def bodyL : MS := (sSeq b_0 (sSeq b_1 (sSeq b_2 (sSeq b_3 (sSeq b_4 (sSeq b_5 (sSeq b_6 (sSeq b_7 (sSeq b_8 (sSeq b_9 (sSeq b_10 (sSeq b_11 b_12))))))))))))
noncomputable def bodyG : MS := gcS [0] bodyL
noncomputable def a_0 : MS := sFor (iR1 (aC (eF max2F (aC (eC (.int 1)) (aC (eF min2F (aC (eF lenF (aC (eV 0) aN)) (aC (eC (.int 8)) aN))) aN))) aN)) (gN 1) bodyG
noncomputable def a_1 : MS := (sRt (eC (.bl true)))
theorem m_law_eq : m_law = fnB 1 14 (sSeq a_0 a_1) := rfl
end K16
namespace FL
open PySem PySem.Spec PyProof.Rows L2
section
variable {α β : Type} {τ τ' : Sl} {L L1 L' J : LH} {x v : PV} {xs : List PV} {m : Fn} {k : Nat} {o : LO}
@[simp] theorem bind_ok {a : α} {f : α → LH → R β} : (R.ok a L).bind f = f a L := rfl
@[simp] theorem bind0_ok {a : α} {f : α → LH → R β} : (R.ok a L).bind0 f = f a L := rfl
@[simp] theorem st_ok {a : α} {f : α → LH → RS} : (R.ok a L).st τ f = f a L := rfl
@[simp] theorem nx_ok : (R.ok τ L).nx = RS.nx τ L := rfl
@[simp] theorem ofS_inj {a b : String} : (Str.ofString a = Str.ofString b) ↔ a = b := by
  constructor
  · intro h
    rw [Str.ofString_eq_toList, Str.ofString_eq_toList] at h
    injection h with h
    have h2 : a.toList.map Char.toNat = b.toList.map Char.toNat := by simpa using congrArg Array.toList h
    have inj : ∀ xs ys : List Char, xs.map Char.toNat = ys.map Char.toNat → xs = ys := by
      intro xs
      induction xs with
      | nil => intro ys h; cases ys with | nil => rfl | cons => simp at h
      | cons x xs ih =>
        intro ys h
        cases ys with
        | nil => simp at h
        | cons y ys =>
          simp only [List.map_cons, List.cons.injEq] at h
          rw [ih ys h.2, Char.ext (UInt32.toNat_inj.mp h.1)]
    exact String.toList_inj.mp (inj _ _ h2)
  · intro h; rw [h]
@[simp] theorem ofS_beq {a b : String} : (Str.ofString a == Str.ofString b) = decide (a = b) := by
  by_cases h : a = b
  · subst h; simp
  · rw [decide_eq_false h]
    exact beq_eq_false_iff_ne.mpr fun q => h (ofS_inj.mp q)
/-- an object that stands stays where more come behind -/
theorem at_app (h : L[k]? = some o) : (L ++ J)[k]? = some o := by rw [List.getElem?_append_left (List.getElem?_eq_some_iff.mp h).1]; exact h
theorem at_new {i : Nat} : (L ++ J)[L.length + i]? = J[i]? := by rw [List.getElem?_append_right (Nat.le_add_right _ _), Nat.add_sub_cancel_left]
theorem at_new0 : (L ++ J)[L.length]? = J[0]? := at_new (i := 0)
theorem set_new {i : Nat} : (L ++ J).set (L.length + i) o = L ++ J.set i o := by rw [List.set_append_right _ _ (Nat.le_add_right _ _), Nat.add_sub_cancel_left]
theorem set_new0 : (L ++ J).set L.length o = L ++ J.set 0 o := set_new (i := 0)
theorem gc_ok (h : m xs L = .ok x L') {n : Nat} (hn : Nat.max L.length (mxBs [x]) = n) (hl : n ≤ L'.length) (hr : refB n x = true) (hi : ∀ (i : Nat) (o : LO), (L'.take n)[i]? = some o → refO n o = true ∨ L[i]? = some o) : gcF m xs L = .ok x (L'.take n) := by
  unfold gcF
  rw [h]
  show R.ok x (gcK2 L.length L [x] L') = _
  unfold gcK2
  rw [hn, if_pos ⟨Nat.ble_eq.mpr hl, by simp only [refBs, Bool.and_true]; exact hr, okI_iff.mpr hi⟩]
/-- nothing is told: all that is new goes -/
theorem gc_cut (h : m xs L = .ok x (L ++ J)) (hx : mxB x = 0) (hr : refB 0 x = true) : gcF m xs L = .ok x L := by
  have e := gc_ok h (n := L.length) (by show Nat.max L.length (Nat.max (mxB x) 0) = _; rw [hx]; exact Nat.max_eq_left (Nat.zero_le _)) (by simp) (refB.mono (Nat.zero_le _) hr) (fun i o q => .inr (by simpa using q))
  rw [e, List.take_left]
theorem loop_inv {g : MG} {b : MS} (I : Nat → Sl → LH → Prop) (h : ∀ (i : Nat) (x : PV) (τ : Sl) (L : LH), xs[i]? = some x → I i τ L → ∃ τ1 τ2 L2, g x τ L = .ok τ1 L ∧ b τ1 L = .nx τ2 L2 ∧ I (i + 1) τ2 L2) :
    ∀ (k i : Nat) (τ : Sl) (L : LH), k + i = xs.length → I i τ L → ∃ τ' L', loop (.vals xs) g b (k + 1) i τ L = .nx τ' L' ∧ I xs.length τ' L' := by
  intro k
  induction k with
  | zero =>
    intro i τ L hk hI
    have e : xs[i]? = none := List.getElem?_eq_none (by omega)
    refine ⟨τ, L, ?_, ?_⟩
    · simp only [loop, Src.get, e]
    · have : i = xs.length := by omega
      rw [← this]; exact hI
  | succ k ih =>
    intro i τ L hk hI
    have hi : i < xs.length := by omega
    have e : xs[i]? = some xs[i] := List.getElem?_eq_getElem hi
    obtain ⟨τ1, τ2, L2, h1, h2, h3⟩ := h i _ τ L e hI
    obtain ⟨τ', L', q1, q2⟩ := ih (i + 1) τ2 L2 (by omega) h3
    refine ⟨τ', L', ?_, q2⟩
    unfold loop
    simp only [Src.get, e, h1, h2]
    exact q1
theorem for_inv {mi : MI} {g : MG} {b : MS} (I : Nat → Sl → LH → Prop) (hi : mi τ L = .ok (.vals xs) L1) (h0 : I 0 τ L1) (h : ∀ (i : Nat) (x : PV) (τ : Sl) (L : LH), xs[i]? = some x → I i τ L → ∃ τ1 τ2 L2, g x τ L = .ok τ1 L ∧ b τ1 L = .nx τ2 L2 ∧ I (i + 1) τ2 L2) :
    ∃ τ' L', sFor mi g b τ L = .nx τ' L' ∧ I xs.length τ' L' := by
  unfold sFor
  rw [hi]
  exact loop_inv I h xs.length 0 τ L1 rfl h0
/-- a comprehension whose parts leave the heap as it is -/
theorem comp_pure {g : MG} {t : MT} {me : ME} {F : PV → PV} (h : ∀ x ∈ xs, ∃ τ1, g x τ L = .ok τ1 L ∧ t τ1 L = .ok true L ∧ me τ1 L = .ok (F x) L) :
    ∀ (k i : Nat) (acc : List PV), k + i = xs.length → acc.length = i → xs.length ≤ sizeLine → compL (.vals xs) g t me (k + 1) i acc τ L = .ok (acc ++ (xs.drop i).map F) L := by
  intro k
  induction k with
  | zero =>
    intro i acc hk ha hz
    have e : xs[i]? = none := List.getElem?_eq_none (by omega)
    have d : xs.drop i = [] := List.drop_eq_nil_of_le (by omega)
    simp only [compL, Src.get, e, d]
    rw [if_pos (by omega)]
    simp
  | succ k ih =>
    intro i acc hk ha hz
    have hi : i < xs.length := by omega
    have e : xs[i]? = some xs[i] := List.getElem?_eq_getElem hi
    obtain ⟨τ1, h1, h2, h3⟩ := h xs[i] (List.getElem_mem hi)
    unfold compL
    simp only [Src.get, e, h1, h2, h3, bind0_ok, if_true]
    have hz2 : acc.length < sizeLine := by omega
    rw [if_pos hz2, ih (i + 1) _ (by omega) (by simp [ha]) hz, List.drop_eq_getElem_cons hi]
    simp only [List.map_cons, List.append_assoc, List.singleton_append]
theorem vc_pure {mi : MI} {g : MG} {t : MT} {me : ME} {own : List Nat} {F : PV → PV} (hi : mi τ L = .ok (.vals xs) L) (h : ∀ x ∈ xs, ∃ τ1, g x (wipeP τ own) L = .ok τ1 L ∧ t τ1 L = .ok true L ∧ me τ1 L = .ok (F x) L) (hz : xs.length ≤ sizeLine := by decide) : vC mi g t me own τ L = .ok (xs.map F) L := by
  unfold vC
  rw [hi]
  show compL _ _ _ _ (xs.length + 1) 0 [] _ L = _
  rw [comp_pure h xs.length 0 [] rfl rfl hz]
  simp
end
end FL
namespace FL
open PySem PySem.Spec PyProof.Rows L2
mutual
/-- data without lists -/
def okV : PV → Bool
  | .non => true
  | .bl _ => true
  | .int _ => true
  | .str z => PyData.strOk z
  | .tup xs => okVs xs
  | _ => false
def okVs : List PV → Bool
  | [] => true
  | x :: xs => okV x && okVs xs
end
mutual
def rkV : PV → Nat
  | .tup xs => rkVs xs + 1
  | _ => 1
def rkVs : List PV → Nat
  | [] => 0
  | x :: xs => max (rkV x) (rkVs xs) + 1
end
mutual
def Dv : PV → PyData
  | .bl b => .bool b
  | .int i => .int i
  | .str z => .str z
  | .tup xs => .tuple (Dvs xs)
  | _ => .none
def Dvs : List PV → List PyData
  | [] => []
  | x :: xs => Dv x :: Dvs xs
end
mutual
theorem dat_eq (L : LH) : ∀ (x : PV) (n : Nat), okV x = true → rkV x ≤ n → dat L n x = some (Dv x)
  | .non, n + 1, _, _ => rfl
  | .bl _, n + 1, _, _ => rfl
  | .int _, n + 1, _, _ => rfl
  | .str _, n + 1, _, _ => rfl
  | .tup xs, n + 1, h, r => by
    have e := datL_eq L xs n h (by simp only [rkV] at r; omega)
    simp only [dat, e, Option.map_some, Dv]
  | .non, 0, _, r => by simp [rkV] at r
  | .bl _, 0, _, r => by simp [rkV] at r
  | .int _, 0, _, r => by simp [rkV] at r
  | .str _, 0, _, r => by simp [rkV] at r
  | .tup _, 0, _, r => by simp [rkV] at r
  | .obj _, _, h, _ => by simp [okV] at h
  | .rol _, _, h, _ => by simp [okV] at h
  | .glo _, _, h, _ => by simp [okV] at h
  | .ty _, _, h, _ => by simp [okV] at h
theorem datL_eq (L : LH) : ∀ (xs : List PV) (n : Nat), okVs xs = true → rkVs xs ≤ n → datL L n xs = some (Dvs xs)
  | [], n, _, _ => by cases n <;> rfl
  | x :: xs, 0, _, r => by simp [rkVs] at r
  | x :: xs, n + 1, h, r => by
    simp only [okVs, Bool.and_eq_true] at h
    simp only [rkVs] at r
    have r1 : rkV x ≤ n := Nat.le_trans (Nat.le_max_left _ _) (Nat.le_of_succ_le_succ r)
    have r2 : rkVs xs ≤ n := Nat.le_trans (Nat.le_max_right _ _) (Nat.le_of_succ_le_succ r)
    simp only [datL, dat_eq L x n h.1 r1, datL_eq L xs n h.2 r2, Dvs]
end
mutual
theorem Dv_ok : ∀ (x : PV), okV x = true → (Dv x).canLay0 = true ∧ (Dv x).depth ≤ rkV x
  | .non, _ => ⟨rfl, Nat.zero_le _⟩
  | .bl _, _ => ⟨rfl, Nat.zero_le _⟩
  | .int _, _ => ⟨rfl, Nat.zero_le _⟩
  | .str _, h => ⟨h, Nat.zero_le _⟩
  | .tup xs, h => by
    obtain ⟨h1, h2⟩ := Dvs_ok xs h
    exact ⟨h1, by simp only [Dv, PyData.depth, rkV]; omega⟩
  | .obj _, h => by simp [okV] at h
  | .rol _, h => by simp [okV] at h
  | .glo _, h => by simp [okV] at h
  | .ty _, h => by simp [okV] at h
theorem Dvs_ok : ∀ (xs : List PV), okVs xs = true → PyData.canLayAll0 (Dvs xs) = true ∧ PyData.depthAll (Dvs xs) ≤ rkVs xs
  | [], _ => ⟨rfl, Nat.zero_le _⟩
  | x :: xs, h => by
    simp only [okVs, Bool.and_eq_true] at h
    obtain ⟨a1, a2⟩ := Dv_ok x h.1
    obtain ⟨b1, b2⟩ := Dvs_ok xs h.2
    refine ⟨by simp only [Dvs, PyData.canLayAll0, a1, b1, Bool.and_self], ?_⟩
    simp only [Dvs, PyData.depthAll, rkVs]
    exact Nat.max_le.mpr ⟨Nat.le_succ_of_le (Nat.le_trans a2 (Nat.le_max_left _ _)), Nat.le_succ_of_le (Nat.le_trans b2 (Nat.le_max_right _ _))⟩
end
mutual
theorem eqv_same : ∀ (x : PV), PyData.eqv (Dv x) (Dv x) = true
  | .non => rfl
  | .bl _ => by simp [Dv, PyData.eqv]
  | .int _ => by simp [Dv, PyData.eqv]
  | .str _ => by simp [Dv, PyData.eqv]
  | .tup xs => by simp only [Dv, PyData.eqv]; exact eqvs_same xs
  | .obj _ => rfl
  | .rol _ => rfl
  | .glo _ => rfl
  | .ty _ => rfl
theorem eqvs_same : ∀ (xs : List PV), PyData.eqvAll (Dvs xs) (Dvs xs) = true
  | [] => rfl
  | x :: xs => by simp only [Dvs, PyData.eqvAll, eqv_same x, eqvs_same xs, Bool.and_self]
end
section
variable {L : LH} {x y : PV} {xs ys : List PV} {n m : Nat}
theorem shaped_of (h : okV x = true) (r : rkV x ≤ 60) : SeqAt.shaped (Dv x) = true := by
  obtain ⟨a, b⟩ := Dv_ok x h
  unfold SeqAt.shaped
  rw [a, Bool.true_and]
  exact decide_eq_true (by omega)
theorem eqD_two (hx : okV x = true) (rx : rkV x ≤ 60) (hy : okV y = true) (ry : rkV y ≤ 60) : eqD L x y = some (PyData.eqv (Dv x) (Dv y)) := by
  unfold eqD
  rw [dat_eq L x 60 hx rx, dat_eq L y 60 hy ry]
  exact if_pos ⟨shaped_of hx rx, shaped_of hy ry⟩
theorem eqD_refl (hx : okV x = true) (rx : rkV x ≤ 60) : eqD L x x = some true := by rw [eqD_two hx rx hx rx, eqv_same]
theorem neF_refl (hx : okV x = true) (rx : rkV x ≤ 60) : neF x x L = .ok (.bl false) L := by unfold neF; rw [eqD_refl hx rx]; rfl
/-- lists of data -/
theorem eqD_lists (h1 : L[n]? = some (.lst xs)) (h2 : L[m]? = some (.lst ys)) (hx : okVs xs = true) (rx : rkVs xs ≤ 58) (hy : okVs ys = true) (ry : rkVs ys ≤ 58) : eqD L (.obj n) (.obj m) = some (PyData.eqvAll (Dvs xs) (Dvs ys)) := by
  obtain ⟨a1, b1⟩ := Dvs_ok xs hx
  obtain ⟨a2, b2⟩ := Dvs_ok ys hy
  have s : ∀ {zs : List PV}, PyData.canLayAll0 (Dvs zs) = true → PyData.depthAll (Dvs zs) ≤ 58 → SeqAt.shaped (.list (Dvs zs)) = true := fun a b => by
    unfold SeqAt.shaped
    simp only [PyData.canLay0, PyData.depth, a, Bool.true_and]
    exact decide_eq_true (by omega)
  unfold eqD
  simp only [dat, h1, h2, datL_eq L xs 59 hx (by omega), datL_eq L ys 59 hy (by omega), Option.map_some]
  rw [if_pos ⟨s a1 (by omega), s a2 (by omega)⟩]
  rfl
theorem atI_nat {α : Type} {l : List α} {i : Nat} (h : i < l.length) : atI l (i : Int) = l[i]? := by
  unfold atI ixN
  rw [if_pos (by omega), if_pos (by omega)]
  rfl
/-- sources that are read while the heap stays -/
def Reads (s : Src) (L : LH) (xs : List PV) : Prop := ∀ i, s.get L i = some xs[i]?
theorem reads_at (h : L[n]? = some (.lst xs)) : Reads (.at_ n) L xs := fun i => by simp [Src.get, h]
end
theorem okVs_map {α : Type} {f : α → PV} {l : List α} (h : ∀ a ∈ l, okV (f a) = true) : okVs (l.map f) = true := by
  induction l with
  | nil => rfl
  | cons a l ih =>
    simp only [List.map_cons, okVs, Bool.and_eq_true]
    exact ⟨h a (List.mem_cons_self ..), ih fun b hb => h b (List.mem_cons_of_mem _ hb)⟩
end FL
namespace FL
open PySem PySem.Spec PyProof.Rows L2
section
variable {s : Src} {xs : List PV} {g : MG} {b : MS} {τ : Sl} {L L0 : LH}
theorem loop_gen (I : Nat → Sl → LH → Prop) (hs : ∀ i τ L, I i τ L → Reads s L xs) (h : ∀ (i : Nat) (x : PV) (τ : Sl) (L : LH), xs[i]? = some x → I i τ L → ∃ τ1 τ2 L2, g x τ L = .ok τ1 L ∧ b τ1 L = .nx τ2 L2 ∧ I (i + 1) τ2 L2) :
    ∀ (k i : Nat) (τ : Sl) (L : LH), k + i = xs.length → I i τ L → ∃ τ' L', loop s g b (k + 1) i τ L = .nx τ' L' ∧ I xs.length τ' L' := by
  intro k
  induction k with
  | zero =>
    intro i τ L hk hI
    have e : s.get L i = some none := by rw [hs i τ L hI i, List.getElem?_eq_none (by omega)]
    refine ⟨τ, L, by simp only [loop, e], ?_⟩
    have : i = xs.length := by omega
    rw [← this]; exact hI
  | succ k ih =>
    intro i τ L hk hI
    have hi : i < xs.length := by omega
    have e0 : xs[i]? = some xs[i] := List.getElem?_eq_getElem hi
    have e : s.get L i = some (some xs[i]) := by rw [hs i τ L hI i, e0]
    obtain ⟨τ1, τ2, L2, h1, h2, h3⟩ := h i _ τ L e0 hI
    obtain ⟨τ', L', q1, q2⟩ := ih (i + 1) τ2 L2 (by omega) h3
    refine ⟨τ', L', ?_, q2⟩
    unfold loop
    simp only [e, h1, h2]
    exact q1
theorem for_gen {mi : MI} (I : Nat → Sl → LH → Prop) (hi : mi τ L0 = .ok s L) (hl : s.len L = xs.length) (hs : ∀ i τ L, I i τ L → Reads s L xs) (h0 : I 0 τ L) (h : ∀ (i : Nat) (x : PV) (τ : Sl) (L : LH), xs[i]? = some x → I i τ L → ∃ τ1 τ2 L2, g x τ L = .ok τ1 L ∧ b τ1 L = .nx τ2 L2 ∧ I (i + 1) τ2 L2) :
    ∃ τ' L', sFor mi g b τ L0 = .nx τ' L' ∧ I xs.length τ' L' := by
  unfold sFor
  rw [hi]
  show ∃ τ' L', loop s g b (s.len L + 1) 0 τ L = .nx τ' L' ∧ _
  rw [hl]
  exact loop_gen I hs h xs.length 0 τ L rfl h0
end
end FL
namespace K16
open PySem PySem.Spec PyProof.Rows L2 FL
abbrev KD := List (Int × Int)
def dd (d : KD) : List (Key × PV) := d.map fun p => (.inl p.1, .int p.2)
def di (d : KD) : List (Key × PyData) := d.map fun p => (.inl p.1, .int p.2)
def ks (d : KD) : List Int := d.map (·.1)
def vs (d : KD) : List Int := d.map (·.2)
def put (d : KD) (k v : Int) : KD := if k ∈ ks d then d.map (fun p => if p.1 = k then (p.1, v) else p) else d ++ [(k, v)]
def mg (d ps : KD) : KD := ps.foldl (fun a p => put a p.1 p.2) d
structure Ok (d : KD) : Prop where
  nd : (ks d).Nodup
  rg : ∀ p ∈ d, 0 ≤ p.1
  len : d.length ≤ 20
theorem getK_dd (d : KD) (k : Int) : getK (dd d) (.inl k) = (d.find? fun p => decide (p.1 = k)).map fun p => PV.int p.2 := by
  unfold getK dd
  induction d with
  | nil => rfl
  | cons p d ih =>
    by_cases h : p.1 = k
    · simp [List.find?, h]
    · have h2 : ¬ (Sum.inl p.1 : Key) = Sum.inl k := fun z => h (by injection z)
      simp only [List.map_cons, List.find?, h, h2, decide_false]
      exact ih
theorem find_none {d : KD} {k : Int} (h : k ∉ ks d) : (d.find? fun p => decide (p.1 = k)) = none := by
  rw [List.find?_eq_none]
  intro p hp
  simp only [decide_eq_true_eq]
  intro e
  exact h (List.mem_map.mpr ⟨p, hp, e⟩)
theorem find_some {d : KD} {k : Int} (h : k ∈ ks d) : ∃ p, (d.find? fun p => decide (p.1 = k)) = some p ∧ p ∈ d ∧ p.1 = k := by
  obtain ⟨p, hp, e⟩ := List.mem_map.mp h
  cases q : d.find? fun p => decide (p.1 = k) with
  | none => rw [List.find?_eq_none] at q; exact absurd (by simpa using e) (q p hp)
  | some r => exact ⟨r, rfl, List.mem_of_find?_eq_some q, by simpa using List.find?_some q⟩
theorem putD_dd (d : KD) (k v : Int) : putD (dd d) (.inl k) (.int v) = dd (put d k v) := by
  unfold putD put
  rw [getK_dd]
  by_cases h : k ∈ ks d
  · obtain ⟨p, q, _, _⟩ := find_some h
    rw [q, if_pos h, if_pos (by rfl)]
    unfold dd
    rw [List.map_map, List.map_map]
    refine List.map_congr_left fun p _ => ?_
    by_cases e : p.1 = k
    · simp [e]
    · have e2 : ¬ (Sum.inl p.1 : Key) = Sum.inl k := fun z => e (by injection z)
      simp [e, e2]
  · rw [find_none h, if_neg h, if_neg (by decide)]
    simp [dd]
theorem mergeD_dd (ps : KD) : ∀ d : KD, mergeD (dd d) (dd ps) = dd (mg d ps) := by
  induction ps with
  | nil => intro d; rfl
  | cons p ps ih =>
    intro d
    show mergeD (putD (dd d) (.inl p.1) (.int p.2)) (dd ps) = dd (mg (put d p.1 p.2) ps)
    rw [putD_dd, ih]
theorem ks_put (d : KD) (k v : Int) : ks (put d k v) = if k ∈ ks d then ks d else ks d ++ [k] := by
  unfold put
  by_cases h : k ∈ ks d
  · rw [if_pos h, if_pos h]
    unfold ks
    rw [List.map_map]
    refine List.map_congr_left fun p _ => ?_
    by_cases e : p.1 = k <;> simp [e]
  · rw [if_neg h, if_neg h]; simp [ks]
theorem len_ks (d : KD) : (ks d).length = d.length := by simp [ks]
theorem put_nd {d : KD} {k v : Int} (h : (ks d).Nodup) : (ks (put d k v)).Nodup := by
  rw [ks_put]
  by_cases e : k ∈ ks d
  · rw [if_pos e]; exact h
  · rw [if_neg e]
    rw [List.nodup_append]
    exact ⟨h, by simp, fun a ha b hb => by
      have : b = k := by simpa using hb
      subst this; exact fun z => e (z ▸ ha)⟩
theorem mg_ok (ps : KD) : ∀ d : KD, (ks d).Nodup → (∀ k ∈ ks d, 0 ≤ k ∧ k < 40) → (∀ p ∈ ps, 0 ≤ p.1 ∧ p.1 < 40) → d.length + ps.length ≤ 8 → Ok (mg d ps) ∧ (∀ k ∈ ks (mg d ps), k < 40) ∧ (mg d ps).length ≤ 8 := by
  induction ps with
  | nil => intro d h1 h2 _ h4; exact ⟨⟨h1, fun p hp => (h2 _ (List.mem_map.mpr ⟨p, hp, rfl⟩)).1, by simp only [mg, List.foldl_nil]; simp only [List.length_nil] at h4; omega⟩, fun k hk => (h2 k hk).2, by simpa [mg] using h4⟩
  | cons p ps ih =>
    intro d h1 h2 h3 h4
    have hp := h3 p List.mem_cons_self
    have hl : (put d p.1 p.2).length ≤ d.length + 1 := by
      rw [← len_ks, ← len_ks, ks_put]
      split <;> simp
    refine ih (put d p.1 p.2) (put_nd h1) (fun k hk => ?_) (fun q hq => h3 q (List.mem_cons_of_mem _ hq)) (by simp only [List.length_cons] at h4; omega)
    rw [ks_put] at hk
    split at hk
    · exact h2 k hk
    · rcases List.mem_append.mp hk with h | h
      · exact h2 k h
      · have : k = p.1 := by simpa using h
        rw [this]; exact hp
theorem mg_new (ps : KD) : ∀ d : KD, (ks (d ++ ps)).Nodup → mg d ps = d ++ ps := by
  induction ps with
  | nil => intro d _; simp [mg]
  | cons p ps ih =>
    intro d h
    have hn : p.1 ∉ ks d := by
      intro z
      have h' : (ks d ++ ks (p :: ps)).Nodup := by simpa [ks] using h
      exact (List.nodup_append.mp h').2.2 _ z _ (by simp [ks]) rfl
    show mg (put d p.1 p.2) ps = _
    unfold put
    rw [if_neg hn, ih]
    · simp
    · simpa [ks] using h
theorem put_ok {d : KD} (h : Ok d) (hl : d.length ≤ 8) (v : Int) : Ok (put d 40 v) := by
  refine ⟨put_nd h.nd, fun p hp => ?_, ?_⟩
  · have hk : p.1 ∈ ks (put d 40 v) := List.mem_map.mpr ⟨p, hp, rfl⟩
    rw [ks_put] at hk
    split at hk
    · obtain ⟨q, hq, e⟩ := List.mem_map.mp hk
      rw [← e]; exact h.rg q hq
    · rcases List.mem_append.mp hk with z | z
      · obtain ⟨q, hq, e⟩ := List.mem_map.mp z
        rw [← e]; exact h.rg q hq
      · have : p.1 = 40 := by simpa using z
        omega
  · have : (put d 40 v).length ≤ d.length + 1 := by
      rw [← len_ks, ← len_ks, ks_put]
      split <;> simp
    omega
theorem put_new {d : KD} (h : ∀ k ∈ ks d, k < 40) (v : Int) : (put d 40 v).length = d.length + 1 := by
  unfold put
  rw [if_neg fun z => absurd (h _ z) (by decide)]
  simp
theorem ks_perm {a b : KD} (h : a.Perm b) : (ks a).Perm (ks b) := h.map _
theorem Ok.perm {a b : KD} (h : Ok a) (p : a.Perm b) : Ok b := ⟨(ks_perm p).nodup h.nd, fun q hq => h.rg q (p.mem_iff.mpr hq), by rw [← p.length_eq]; exact h.len⟩
theorem rev_ok {d : KD} (h : Ok d) : Ok d.reverse := h.perm (List.reverse_perm d).symm
theorem mg_self {d : KD} (h : Ok d) : mg [] d = d := by simpa using mg_new d [] (by simpa using h.nd)
def look (d : KD) (k : Int) : Int := ((d.find? fun p => decide (p.1 = k)).map (·.2)).getD 0
def srt (d : KD) : KD := (sortI (ks d)).map fun k => (k, look d k)
theorem look_mem {d : KD} (h : (ks d).Nodup) {p : Int × Int} (hp : p ∈ d) : look d p.1 = p.2 := by
  unfold look
  induction d with
  | nil => cases hp
  | cons q d ih =>
    have hn : q.1 ∉ ks d ∧ (ks d).Nodup := by simpa [ks] using h
    rcases List.mem_cons.mp hp with rfl | h2
    · simp [List.find?]
    · have ne : ¬ q.1 = p.1 := fun z => hn.1 (z ▸ List.mem_map.mpr ⟨p, h2, rfl⟩)
      simp only [List.find?, ne, decide_false]
      exact ih hn.2 h2
theorem srt_perm {d : KD} (h : Ok d) : (srt d).Perm d := by
  have e : (ks d).map (fun k => (k, look d k)) = d := by
    unfold ks
    rw [List.map_map]
    refine (List.map_congr_left fun p hp => ?_).trans (List.map_id d)
    show (p.1, look d p.1) = id p
    rw [look_mem h.nd hp]; rfl
  have := (sortI_perm (ks d)).map fun k => (k, look d k)
  rw [e] at this
  exact this
theorem srt_ok {d : KD} (h : Ok d) : Ok (srt d) := h.perm (srt_perm h).symm
theorem lookK_di {d : KD} (h : (ks d).Nodup) (k : Int) (v : Int) : lookK (di d) (.inl k) = some (.int v) ↔ (k, v) ∈ d := by
  induction d with
  | nil => simp [di, lookK]
  | cons p d ih =>
    have hn : p.1 ∉ ks d ∧ (ks d).Nodup := by simpa [ks] using h
    have ih := ih hn.2
    show (if (Sum.inl p.1 : Key) = Sum.inl k then some (PyData.int p.2) else lookK (di d) (.inl k)) = _ ↔ _
    by_cases e : p.1 = k
    · rw [if_pos (by rw [e])]
      subst e
      constructor
      · intro z
        have : p.2 = v := by simpa using z
        subst this; exact List.mem_cons_self
      · intro z
        rcases List.mem_cons.mp z with z | z
        · rw [← z]
        · exact absurd (List.mem_map.mpr ⟨_, z, rfl⟩) hn.1
    · rw [if_neg fun z => e (by injection z), ih]
      constructor
      · exact List.mem_cons_of_mem _
      · intro z
        rcases List.mem_cons.mp z with z | z
        · exact absurd (by rw [← z]) e
        · exact z
theorem lookK_ints {d : KD} {k : Int} : lookK (di d) (.inl k) = none ∨ ∃ v, lookK (di d) (.inl k) = some (.int v) := by
  induction d with
  | nil => exact .inl rfl
  | cons p d ih =>
    show (if (Sum.inl p.1 : Key) = Sum.inl k then some (PyData.int p.2) else lookK (di d) (.inl k)) = _ ∨ ∃ v, (if (Sum.inl p.1 : Key) = Sum.inl k then some (PyData.int p.2) else lookK (di d) (.inl k)) = _
    split
    · exact .inr ⟨_, rfl⟩
    · exact ih
theorem hits_di {b : KD} (hb : (ks b).Nodup) (a : KD) : hitsF (di b) (di a) = true ↔ ∀ p ∈ a, p ∈ b := by
  induction a with
  | nil => simp [di, hitsF]
  | cons p a ih =>
    have e : hitsF (di b) (di (p :: a)) = (match lookK (di b) (.inl p.1) with
      | none => false
      | some e => PyData.eqv (.int p.2) e && hitsF (di b) (di a)) := rfl
    rw [e]
    rcases lookK_ints (d := b) (k := p.1) with h | ⟨v, h⟩
    · rw [h]
      constructor
      · intro z; cases z
      · intro z
        have := (lookK_di hb p.1 p.2).mpr (z p List.mem_cons_self)
        rw [h] at this; cases this
    · rw [h]
      have hv := (lookK_di hb p.1 v).mp h
      show ((PyData.eqv (.int p.2) (.int v)) && _) = true ↔ _
      simp only [PyData.eqv, Bool.and_eq_true, beq_iff_eq, ih]
      constructor
      · rintro ⟨rfl, h2⟩ q hq
        rcases List.mem_cons.mp hq with rfl | hq
        · exact hv
        · exact h2 q hq
      · intro z
        refine ⟨?_, fun q hq => z q (List.mem_cons_of_mem _ hq)⟩
        have := (lookK_di hb p.1 p.2).mpr (z p List.mem_cons_self)
        rw [h] at this
        simpa using this.symm
/-- == of two such dicts -/
def eqd (a b : KD) : Bool := eqDD (di a) (di b)
theorem eqd_iff {a b : KD} (hb : (ks b).Nodup) : eqd a b = true ↔ a.length = b.length ∧ ∀ p ∈ a, p ∈ b := by
  unfold eqd eqDD
  rw [Bool.and_eq_true, hits_di hb]
  simp [di]
theorem eqd_perm {a b : KD} (hb : Ok b) (p : a.Perm b) : eqd a b = true := (eqd_iff hb.nd).mpr ⟨p.length_eq, fun q hq => p.mem_iff.mp hq⟩
theorem eqd_congr {a a' b b' : KD} (hb : Ok b) (p : a.Perm a') (q : b.Perm b') : eqd a b = eqd a' b' := by
  have : eqd a b = true ↔ eqd a' b' = true := by
    rw [eqd_iff hb.nd, eqd_iff (hb.perm q).nd, p.length_eq, q.length_eq]
    refine and_congr_right fun _ => ⟨fun h x hx => q.mem_iff.mp (h x (p.mem_iff.mpr hx)), fun h x hx => q.mem_iff.mpr (h x (p.mem_iff.mp hx))⟩
  cases h1 : eqd a b <;> cases h2 : eqd a' b' <;> simp_all
theorem eqd_len {a b : KD} (h : a.length ≠ b.length) : eqd a b = false := by
  unfold eqd eqDD
  simp [di, h]
theorem maxN_perm {a b : List Int} (p : a.Perm b) (h : a ≠ []) : maxN a = maxN b := by
  refine maxN_eq (ns := b) ?_ ?_
  · cases a with
    | nil => exact absurd rfl h
    | cons x xs =>
      refine p.mem_iff.mp ?_
      rcases (foldl_maxN xs x).2.2 with e | e
      · show xs.foldl max x ∈ _
        rw [e]; exact List.mem_cons_self
      · exact List.mem_cons_of_mem _ e
  · intro y hy
    have hy' := p.mem_iff.mpr hy
    cases a with
    | nil => cases hy'
    | cons x xs =>
      rcases List.mem_cons.mp hy' with rfl | z
      · exact (foldl_maxN xs y).1
      · exact (foldl_maxN xs x).2.1 y z
theorem vs_perm {a b : KD} (h : a.Perm b) : (vs a).Perm (vs b) := h.map _
end K16
namespace K16
open PySem PySem.Spec PyProof.Rows FL
open L2 (Key eqDD)
theorem log_le {n : Nat} (h : n < 2 ^ 100) : n.log2 < 200 := by
  by_cases h0 : n = 0
  · subst h0; decide
  · exact Nat.lt_of_lt_of_le ((Nat.log2_lt h0).mpr h) (by decide)
theorem mul_int {i j : Int} {L : LH} (h1 : i.natAbs < 2 ^ 100) (h2 : j.natAbs < 2 ^ 100) : mulBF (.int i) (.int j) L = .ok (.int (i * j)) L := by
  show (if i.natAbs.log2 + j.natAbs.log2 < 1000000 then R.ok (PV.int (i * j)) L else .no) = _
  rw [if_pos (by have := log_le h1; have := log_le h2; omega)]
theorem set_same {L : LH} {k : Nat} {o : LO} (h : L[k]? = some o) : L.set k o = L := by
  apply List.ext_getElem?
  intro i
  rw [List.getElem?_set]
  split
  · rename_i e
    subst e
    have hk := (List.getElem?_eq_some_iff.mp h).1
    rw [if_pos hk, h]
  · rfl
/-- the draws' state -/
structure Pl (s : Int) : Prop where
  lo : 0 ≤ s
  hi : s < 2147483648
theorem draw_ok {L : LH} {p : Nat} {c s m : Int} (hp : L[p]? = some (.lst [.int c, .int s])) (h : Pl s) (m0 : 0 < m) (m1 : m < 1000) :
    ∃ d c' s' : Int, 0 ≤ d ∧ d < m ∧ Pl s' ∧ m__law_draw [.obj p, .int m] L = .ok (.int d) (L.set p (.lst [.int c', .int s'])) := by
  obtain ⟨s0, s1⟩ := h
  have hpl : p < L.length := (List.getElem?_eq_some_iff.mp hp).1
  have lm : m.natAbs.log2 < 9000 := Nat.lt_trans (log_le (by omega)) (by decide)
  have hm : ∀ (x : Int) (L : LH), modF (.int x) (.int m) L = .ok (.int (x % m)) L := fun x L => if_pos m0
  by_cases hc : 0 < c
  · refine ⟨c % m, c / m, s, Int.emod_nonneg _ (by omega), Int.emod_lt_of_pos _ m0, ⟨s0, s1⟩, ?_⟩
    exact x_fn rfl (x_seq_rt (x_if (x_t (x_op (x_op (x_v rfl) x_c (x_ix hp rfl)) x_c rfl)) ((if_pos (decide_eq_true hc)).trans
      (x_seq (x_as (x_op (x_f (x_a (x_op (x_v rfl) x_c (x_ix hp rfl)) x_n) rfl) (x_v rfl) (hm _ _)) rfl)
        (x_seq (x_as (x_op (x_op (x_v rfl) x_c (x_ix hp rfl)) (x_v rfl) (if_pos ⟨m0, lm⟩)) (x_set (x_v rfl) x_c hp rfl)) (x_rt (x_v rfl)))))))
  · have e1 : ∀ (x y : Int) (L : LH), 0 < y → modF (.int x) (.int y) L = .ok (.int (x % y)) L := fun x y L h => if_pos h
    have t0 := Int.emod_nonneg (s * 48271 + 11) (show (2147483647 : Int) ≠ 0 by decide)
    have t1 := Int.emod_lt_of_pos (s * 48271 + 11) (show (0 : Int) < 2147483647 by decide)
    generalize ht : (s * 48271 + 11) % 2147483647 = t at t0 t1
    have hq : (L.set p (.lst [.int c, .int t]))[p]? = some (.lst [.int c, .int t]) := List.getElem?_set_self hpl
    have f64 : ∀ (x : Int) (L : LH), fdivF (.int x) (.int 64) L = .ok (.int (x / 64)) L := fun x L => by
      show (if (0 : Int) < 64 ∧ (64 : Int).natAbs.log2 < 9000 then R.ok (PV.int (x / 64)) L else .no) = _
      rw [if_pos (by decide +kernel)]
    refine ⟨(t * t) % 2147483629 / 64 % m, c, t, Int.emod_nonneg _ (by omega), Int.emod_lt_of_pos _ m0, ⟨t0, by omega⟩, ?_⟩
    refine x_fn rfl (x_seq (x_if (x_t (x_op (x_op (x_v rfl) x_c (x_ix hp rfl)) x_c rfl)) ((if_neg fun z => hc (of_decide_eq_true z)).trans rfl)) ?_)
    refine x_seq (x_as (x := .int t) (x_op (x_f (x_a (x_op (x_op (x_op (x_v rfl) x_c (x_ix hp rfl)) x_c (mul_int (by omega) (by decide))) x_c rfl) x_n) rfl) x_c ((e1 _ _ _ (by decide)).trans (by rw [ht]))) (x_set (x_v rfl) x_c hp rfl)) ?_
    exact x_rt (x_op (x_op (x_op (x_f (x_a (x_op (x_op (x_v rfl) x_c (x_ix hq rfl)) (x_op (x_v rfl) x_c (x_ix hq rfl)) (mul_int (by omega) (by omega))) x_n) rfl) x_c (e1 _ _ _ (by decide))) x_c (f64 _ _)) (x_v rfl) (hm _ _))
theorem pool_ok {ns : List Int} {k : Nat} (hk : k < 100) : ∃ c s : Int, Pl s ∧ m__law_pool [.rol (ns.map .int), .int k] [] = .ok (.obj 0) [.lst [.int c, .int s]] := by
  have e1 : ∀ (x y : Int) (L : LH), 0 < y → modF (.int x) (.int y) L = .ok (.int (x % y)) L := fun x y L h => if_pos h
  have cell : ∃ c : Int, sIf (gcT2 (tOp2 ltF (eV 1) (eF lenF (aC (eV 0) aN)))) (sAs (eOp ixF (eV 0) (eV 1)) (gN 2)) sN [some (.rol (ns.map .int)), some (.int k), some (.int 0), none] [] = .nx [some (.rol (ns.map .int)), some (.int k), some (.int c), none] [] := by
    have lenE : lenF [.rol (ns.map .int)] [] = .ok (.int ns.length) [] := by
      unfold lenF
      simp
    have ct : gcT2 (tOp2 ltF (eV 1) (eF lenF (aC (eV 0) aN))) [some (.rol (ns.map .int)), some (.int k), some (.int 0), none] [] = .ok (decide ((k : Int) < (ns.length : Int))) [] :=
      x_gcT2 (J := []) (x_t (x_op (x_v rfl) (x_f (x_a (x_v rfl) x_n) lenE) rfl))
    by_cases h : k < ns.length
    · refine ⟨ns[k], x_if ct ((if_pos (decide_eq_true (by omega))).trans (x_as (x_op (x_v rfl) (x_v rfl) (x_ixr ?_)) rfl))⟩
      unfold L2.atI L2.ixN
      rw [if_pos (by omega), if_pos (by rw [List.length_map]; omega)]
      simp [h]
    · exact ⟨0, x_if ct ((if_neg fun z => h (by have := of_decide_eq_true z; omega)).trans rfl)⟩
  obtain ⟨c, hc⟩ := cell
  have u0 := Int.emod_nonneg c (show (2147483629 : Int) ≠ 0 by decide)
  have u1 := Int.emod_lt_of_pos c (show (0 : Int) < 2147483629 by decide)
  have kk : (k : Int) * k ≤ 10000 := by
    have : k * k ≤ 100 * 100 := Nat.mul_le_mul (by omega) (by omega)
    exact_mod_cast this
  have kk0 : 0 ≤ (k : Int) * k := by exact_mod_cast Nat.zero_le (k * k)
  have t0 := Int.emod_nonneg ((c % 2147483629 + 7919 * k * k + 31) ^ 3) (show (2147483647 : Int) ≠ 0 by decide)
  have t1 := Int.emod_lt_of_pos ((c % 2147483629 + 7919 * k * k + 31) ^ 3) (show (0 : Int) < 2147483647 by decide)
  have eb : (7919 : Int) * k * k = 7919 * ((k : Int) * k) := by rw [Int.mul_assoc]
  have pw : ∀ L : LH, powF (.int (c % 2147483629 + 7919 * k * k + 31)) (.int 3) L = .ok (.int ((c % 2147483629 + 7919 * k * k + 31) ^ 3)) L := fun L => if_pos ⟨by decide, by decide, by rw [eb]; omega⟩
  have p18 : ∀ L : LH, powF (.int 10) (.int 18) L = .ok (.int 1000000000000000000) L := fun L => by
    show (if (0 : Int) ≤ 18 ∧ (18 : Int) ≤ 1000000 ∧ (10 : Int).natAbs < 2 ^ 64 then R.ok (PV.int (10 ^ (18 : Int).toNat)) L else .no) = _
    rw [if_pos (by decide)]
    rfl
  generalize hs : (c % 2147483629 + 7919 * k * k + 31) ^ 3 % 2147483647 = s at t0 t1
  refine ⟨if c < 1000000000000000000 then 0 else c, s, ⟨t0, by omega⟩, ?_⟩
  refine x_fn rfl (x_seq (x_as x_c rfl) (x_seq hc (x_seq (x_as (x := .int s) (x_op (x_op (x_op (x_op (x_op (x_f (x_a (x_v rfl) x_n) rfl) x_c (e1 _ _ _ (by decide))) (x_op (x_op x_c (x_v rfl) (mul_int (by decide) (by omega))) (x_v rfl) (mul_int (by omega) (by omega))) rfl) x_c rfl) x_c (pw _)) x_c ((e1 _ _ _ (by decide)).trans (by rw [hs]))) rfl) ?_)))
  by_cases hz : c < 1000000000000000000
  · rw [if_pos hz]
    exact x_seq (x_if (x_t (x_op (x_v rfl) (x_op x_c x_c (p18 _)) rfl)) ((if_pos (decide_eq_true hz)).trans (x_as x_c rfl))) rfl
  · rw [if_neg hz]
    exact x_seq (x_if (x_t (x_op (x_v rfl) (x_op x_c x_c (p18 _)) rfl)) ((if_neg fun z => hz (of_decide_eq_true z)).trans rfl)) rfl
abbrev Q (c s : Int) : LO := .lst [.int c, .int s]
def isI : PV → Bool
  | .int _ => true
  | _ => false
def isC : PV → Bool
  | .int i => decide (0 ≤ i)
  | _ => false
/-- values without objects, as they come here -/
inductive Fl : PV → Prop
  | non : Fl .non
  | bl (b : Bool) : Fl (.bl b)
  | int (i : Int) : Fl (.int i)
  | str (s : Str) : Fl (.str s)
  | tup (xs : List PV) : Fl (.tup xs)
theorem isint_ok {x : PV} (h : Fl x) (L : LH) : m_is_integer [x] L = .ok (.bl (isI x)) L := by
  cases h with
  | non => kernel_rfl
  | bl b => kernel_rfl
  | int i => kernel_rfl
  | str s => kernel_rfl
  | tup xs => kernel_rfl
theorem iscount_ok {x : PV} (h : Fl x) (L : LH) : m_is_count [x] L = .ok (.bl (isC x)) L := by
  cases h with
  | int i =>
    have e := isint_ok (.int i) L
    simp [PySem.sizeLine_eq, fnB, startP, sRt, sSeq, sIf, sN, sAs, sEx, gN, eAnd, eOr, eNot, eOp, eF, eC, aC, aN, eV, eCh, leF, ltF, gtF, geF, cmpF, truP, tOp2, tNot, tAnd, tOr, tru, tV1, eIf, eQ, eT, vL, m_is_count, e, isI, isC]
  | non => have e := isint_ok .non L
           simp [PySem.sizeLine_eq, fnB, startP, sRt, sSeq, sIf, sN, sAs, sEx, gN, eAnd, eOr, eNot, eOp, eF, eC, aC, aN, eV, eCh, leF, ltF, gtF, geF, cmpF, truP, tOp2, tNot, tAnd, tOr, tru, tV1, eIf, eQ, eT, vL, m_is_count, e, isI, isC]
  | bl b => have e := isint_ok (.bl b) L
            simp [PySem.sizeLine_eq, fnB, startP, sRt, sSeq, sIf, sN, sAs, sEx, gN, eAnd, eOr, eNot, eOp, eF, eC, aC, aN, eV, eCh, leF, ltF, gtF, geF, cmpF, truP, tOp2, tNot, tAnd, tOr, tru, tV1, eIf, eQ, eT, vL, m_is_count, e, isI, isC]
  | str s => have e := isint_ok (.str s) L
             simp [PySem.sizeLine_eq, fnB, startP, sRt, sSeq, sIf, sN, sAs, sEx, gN, eAnd, eOr, eNot, eOp, eF, eC, aC, aN, eV, eCh, leF, ltF, gtF, geF, cmpF, truP, tOp2, tNot, tAnd, tOr, tru, tV1, eIf, eQ, eT, vL, m_is_count, e, isI, isC]
  | tup xs => have e := isint_ok (.tup xs) L
              simp [PySem.sizeLine_eq, fnB, startP, sRt, sSeq, sIf, sN, sAs, sEx, gN, eAnd, eOr, eNot, eOp, eF, eC, aC, aN, eV, eCh, leF, ltF, gtF, geF, cmpF, truP, tOp2, tNot, tAnd, tOr, tru, tV1, eIf, eQ, eT, vL, m_is_count, e, isI, isC]
theorem toBs_map : ∀ bs : List Bool, toBs (bs.map .bl) = some bs
  | [] => rfl
  | b :: bs => by simp [toBs, toBs_map bs]
theorem allF_bl (bs : List Bool) (L : LH) : allF (bs.map .bl) L = .ok (.bl (bs.all fun b => b)) L := by
  unfold allF
  rw [toBs_map]
theorem chk_pairs {L : LH} {x0 : Option PV} {mi : MI} {ps : List (PV × PV)} (hi : mi [x0, none, none] L = .ok (.vals (ps.map fun p => .tup [p.1, p.2])) L) (hp : ∀ p ∈ ps, Fl p.1 ∧ Fl p.2) (hz : ps.length ≤ 100) :
    vC mi (gT 2 (gs1 (gN 1) (gs1 (gN 2) gs0))) tY (eAnd (eF m_is_count (aC (eV 1) aN)) (eF m_is_integer (aC (eV 2) aN))) [1, 2] [x0, none, none] L = .ok ((ps.map fun p => isC p.1 && isI p.2).map .bl) L := by
  have h := vc_pure (τ := [x0, none, none]) (L := L) (mi := mi) (g := gT 2 (gs1 (gN 1) (gs1 (gN 2) gs0))) (t := tY) (me := eAnd (eF m_is_count (aC (eV 1) aN)) (eF m_is_integer (aC (eV 2) aN))) (own := [1, 2])
    (F := fun x => match x with | .tup [a, b] => .bl (isC a && isI b) | _ => .non) hi (fun x hx => by
      obtain ⟨p, hp1, rfl⟩ := List.mem_map.mp hx
      obtain ⟨f1, f2⟩ := hp p hp1
      refine ⟨[x0, some p.1, some p.2], rfl, rfl, ?_⟩
      have e1 := iscount_ok f1 L
      have e2 := isint_ok f2 L
      cases h1 : isC p.1 <;> simp [PySem.sizeLine_eq, fnB, startP, sRt, sSeq, sIf, sN, sAs, sEx, gN, eAnd, eOr, eNot, eOp, eF, eC, aC, aN, eV, eCh, leF, ltF, gtF, geF, cmpF, truP, tOp2, tNot, tAnd, tOr, tru, tV1, eIf, eQ, eT, vL, e1, e2, h1]) (by rw [List.length_map]; exact Nat.le_trans hz (by decide))
  rw [h, List.map_map, List.map_map]
  rfl
theorem isdict_no {x : PV} {L : LH} (h : isiS SS CS TAB [x, .ty "dict"] L = .ok (.bl false) L) : m_is_dict_of_numbers [x] L = .ok (.bl false) L := by
  simp [PySem.sizeLine_eq, fnB, startP, sRt, sSeq, sIf, sN, sAs, sEx, gN, eAnd, eOr, eNot, eOp, eF, eC, aC, aN, eV, eCh, leF, ltF, gtF, geF, cmpF, truP, tOp2, tNot, tAnd, tOr, tru, tV1, eIf, eQ, eT, vL, m_is_dict_of_numbers, h]
theorem set_back {L : LH} {n : Nat} {o u : LO} (h : L[n]? = some o) : (L.set n u).set n o = L := by rw [List.set_set]; exact set_same h
theorem isdict_dct {n : Nat} {L : LH} {kvs : List (Key × PV)} (h : L[n]? = some (.dct kvs)) (hv : ∀ p ∈ kvs, Fl p.2) (hz : kvs.length ≤ 100) : m_is_dict_of_numbers [.obj n] L = .ok (.bl (kvs.all fun p => isC (kP p.1) && isI p.2)) L := by
  have k1 : kitL TAB (.b "dict") (.b "dict") = some true := by decide +kernel
  have e1 : isiS SS CS TAB [.obj n, .ty "dict"] L = .ok (.bl true) L := by
    simp [isiS, sliOf, isOdd, h, isiF, tpOf, clsOf, k1]
  have hn : n < L.length := (List.getElem?_eq_some_iff.mp h).1
  have e2 := chk_pairs (L := L.set n (.fdct kvs)) (x0 := some (.obj n)) (mi := iIs (eV 0)) (ps := kvs.map fun p => (kP p.1, p.2)) (by
    unfold iIs eV
    simp [hn]) (fun p hp => by
      obtain ⟨q, hq, rfl⟩ := List.mem_map.mp hp
      refine ⟨?_, hv q hq⟩
      cases q.1 with
      | inl i => exact .int i
      | inr s => exact .str s) (by rw [List.length_map]; exact hz)
  have e3 : lockR (eV 0) (vC (iIs (eV 0)) (gT 2 (gs1 (gN 1) (gs1 (gN 2) gs0))) tY (eAnd (eF m_is_count (aC (eV 1) aN)) (eF m_is_integer (aC (eV 2) aN))) [1, 2]) [some (.obj n), none, none] L = .ok ((kvs.map fun p => isC (kP p.1) && isI p.2).map .bl) L := by
    unfold lockR
    rw [show (eV 0 : ME) [some (.obj n), none, none] L = .ok (.obj n) L from rfl]
    simp only [h, e2]
    rw [set_back h]
    simp only [List.map_map]
    rfl
  refine x_fn (v := _) (L1 := L) rfl (x_seq (τ' := [some (.obj n), none, none]) (L1 := L) (x_if (L1 := L) (k := false) ?_ rfl) (x_rt (L1 := L) ?_))
  · simp [PySem.sizeLine_eq, fnB, startP, sRt, sSeq, sIf, sN, sAs, sEx, gN, eAnd, eOr, eNot, eOp, eF, eC, aC, aN, eV, eCh, leF, ltF, gtF, geF, cmpF, truP, tOp2, tNot, tAnd, tOr, tru, tV1, eIf, eQ, eT, vL, e1]
  · unfold eQ
    rw [e3, bind_ok, allF_bl, List.all_map]
    rfl
theorem isdict_odd {n : Nat} {L : LH} {k v : PV} (h : L[n]? = some (.odd k v)) (hk : Fl k) (hv : Fl v) (hn : isC k = false) : m_is_dict_of_numbers [.obj n] L = .ok (.bl false) L := by
  have k1 : kitL TAB (.b "dict") (.b "dict") = some true := by decide +kernel
  have e1 : isiS SS CS TAB [.obj n, .ty "dict"] L = .ok (.bl true) L := by
    simp [isiS, sliOf, isOdd, h, clsOf, k1]
  have e2 := chk_pairs (L := L) (x0 := some (.obj n)) (mi := iIs (eV 0)) (ps := [(k, v)]) (by
    unfold iIs eV
    simp [h]) (fun p hp => by
      obtain rfl : p = (k, v) := by simpa using hp
      exact ⟨hk, hv⟩) (by simp)
  have e3 : lockR (eV 0) (vC (iIs (eV 0)) (gT 2 (gs1 (gN 1) (gs1 (gN 2) gs0))) tY (eAnd (eF m_is_count (aC (eV 1) aN)) (eF m_is_integer (aC (eV 2) aN))) [1, 2]) [some (.obj n), none, none] L = .ok (([(k, v)].map fun p => isC p.1 && isI p.2).map .bl) L := by
    unfold lockR
    rw [show (eV 0 : ME) [some (.obj n), none, none] L = .ok (.obj n) L from rfl]
    simp only [h, e2]
  refine x_fn (v := _) (L1 := L) rfl (x_seq (τ' := [some (.obj n), none, none]) (L1 := L) (x_if (L1 := L) (k := false) ?_ rfl) (x_rt (L1 := L) ?_))
  · simp [PySem.sizeLine_eq, fnB, startP, sRt, sSeq, sIf, sN, sAs, sEx, gN, eAnd, eOr, eNot, eOp, eF, eC, aC, aN, eV, eCh, leF, ltF, gtF, geF, cmpF, truP, tOp2, tNot, tAnd, tOr, tru, tV1, eIf, eQ, eT, vL, e1]
  · unfold eQ
    rw [e3, bind_ok, allF_bl]
    simp [hn]
theorem fl_dd (d : KD) : ∀ p ∈ dd d, Fl p.2 := fun p hp => by
  obtain ⟨q, _, rfl⟩ := List.mem_map.mp hp
  exact .int _
theorem isdict_ok {n : Nat} {L : LH} {d : KD} (h : L[n]? = some (.dct (dd d))) (hd : Ok d) : m_is_dict_of_numbers [.obj n] L = .ok (.bl true) L := by
  rw [isdict_dct h (fl_dd d) (by unfold dd; rw [List.length_map]; exact Nat.le_trans hd.len (by decide))]
  have : (dd d).all (fun p => isC (kP p.1) && isI p.2) = true := by
    rw [List.all_eq_true]
    intro p hp
    obtain ⟨q, hq, rfl⟩ := List.mem_map.mp hp
    simp [kP, isC, isI, hd.rg q hq]
  rw [this]
end K16
namespace K16
open PySem PySem.Spec PyProof.Rows FL
open L2 (Key eqDD)
theorem put_len (d : KD) (k v : Int) : (put d k v).length ≤ d.length + 1 := by
  rw [← len_ks, ← len_ks, ks_put]
  split <;> simp
theorem compD_ok {s : Src} {L : LH} {τ : Sl} {g : MG} {mk mv : ME} {xs : List Int} {f : Int → Int} (hs : Reads s L (xs.map .int)) (h : ∀ k ∈ xs, ∃ τ1, g (.int k) τ L = .ok τ1 L ∧ mk τ1 L = .ok (.int k) L ∧ mv τ1 L = .ok (.int (f k)) L) (hz : xs.length ≤ 100) :
    ∀ (n i : Nat) (acc : KD), n + i = xs.length → acc.length ≤ i → compD s g tY mk mv (n + 1) i (dd acc) τ L = .ok (dd (mg acc ((xs.drop i).map fun k => (k, f k)))) L := by
  intro n
  induction n with
  | zero =>
    intro i acc hk ha
    have e : (xs.map PV.int)[i]? = none := List.getElem?_eq_none (by rw [List.length_map]; omega)
    have d : xs.drop i = [] := List.drop_eq_nil_of_le (by omega)
    unfold compD
    rw [hs i, e, d]
    rfl
  | succ n ih =>
    intro i acc hk ha
    have hi : i < xs.length := by omega
    have e : (xs.map PV.int)[i]? = some (.int xs[i]) := by rw [List.getElem?_map, List.getElem?_eq_getElem hi]; rfl
    obtain ⟨τ1, h1, h2, h3⟩ := h xs[i] (List.getElem_mem hi)
    unfold compD
    rw [hs i, e]
    simp only [h1, h2, h3, bind0_ok, tY, if_true, toK]
    have hl : (dd acc).length < sizeLine := by
      have : (dd acc).length = acc.length := by simp [dd]
      rw [this]
      exact Nat.lt_of_le_of_lt (show acc.length ≤ 100 by omega) (by decide)
    rw [if_pos hl, putD_dd, ih (i + 1) _ (by omega) (Nat.le_trans (put_len _ _ _) (by omega)), List.drop_eq_getElem_cons hi]
    rfl
theorem keysI_dd : ∀ d : KD, keysI (dd d) = some (ks d)
  | [] => rfl
  | p :: d => by
    show (keysI (dd d)).map (p.1 :: ·) = _
    rw [keysI_dd d]
    rfl
theorem sorted_ok {a : Nat} {d : KD} {L : LH} (h : L[a]? = some (.dct (dd d))) (hd : Ok d) : sortedDF [.obj a] L = .ok (.obj L.length) (L ++ [.lst ((sortI (ks d)).map .int)]) := by
  unfold sortedDF dctX
  simp only [h, Option.bind_some, dctOf, keysI_dd]
  rw [if_pos (by rw [len_ks]; exact Nat.lt_of_le_of_lt hd.len (by decide))]
theorem get_ok {d : KD} {k : Int} (h : k ∈ ks d) : getK (dd d) (.inl k) = some (.int (look d k)) := by
  rw [getK_dd]
  obtain ⟨p, q, _, _⟩ := find_some h
  unfold look
  rw [q]
  rfl
theorem ixd_ok {a : Nat} {d : KD} {k : Int} {L : LH} (h : L[a]? = some (.dct (dd d))) (hk : k ∈ ks d) : ixF (.obj a) (.int k) L = .ok (.int (look d k)) L := by
  unfold ixF
  simp only [h, dctOf, toK, get_ok hk]
theorem nod_srt {d : KD} (hd : Ok d) : (ks ((sortI (ks d)).map fun k => (k, look d k))).Nodup := (srt_ok hd).nd
/-- {tick: d[tick] for tick in sorted(d)} -/
theorem dc_ok {j a : Nat} {d : KD} {L : LH} {τ : Sl} {s x1 x2 x3 x4 : Option PV} (hτ : τ = [s, x1, x2, x3, x4]) (hj : j < 4) (ha : τ[j]? = some (some (.obj a))) (h : L[a]? = some (.dct (dd d))) (hd : Ok d) :
    eDc (iA (eF sortedDF (aC (eV j) aN))) (gN 4) tY (eV 4) (eOp ixF (eV j) (eV 4)) [4] τ L = .ok (.obj (L.length + 1)) (L ++ [.lst ((sortI (ks d)).map .int), .dct (dd (srt d))]) := by
  have e1 : iA (eF sortedDF (aC (eV j) aN)) τ L = .ok (.at_ L.length) (L ++ [.lst ((sortI (ks d)).map .int)]) := by
    unfold iA
    rw [x_f (x_a (x_v ha) x_n) (sorted_ok h hd)]
    show (match (L ++ [LO.lst ((sortI (ks d)).map .int)])[L.length]? with | some (.lst _) => R.ok (Src.at_ L.length) _ | _ => .no) = _
    rw [at_new0]
    rfl
  have hL' : (L ++ [LO.lst ((sortI (ks d)).map .int)])[a]? = some (.dct (dd d)) := at_app h
  have rd : Reads (.at_ L.length) (L ++ [LO.lst ((sortI (ks d)).map .int)]) ((sortI (ks d)).map .int) := reads_at at_new0
  have sl : (Src.at_ L.length).len (L ++ [LO.lst ((sortI (ks d)).map .int)]) = (sortI (ks d)).length := by
    unfold Src.len
    simp only [at_new0]
    simp
  have lz : (sortI (ks d)).length ≤ 20 := by rw [(sortI_perm _).length_eq, len_ks]; exact hd.len
  have c := compD_ok (s := .at_ L.length) (L := L ++ [.lst ((sortI (ks d)).map .int)]) (τ := wipeP τ [4]) (g := gN 4) (mk := eV 4) (mv := eOp ixF (eV j) (eV 4)) (xs := sortI (ks d)) (f := look d) rd (fun k hk => by
    subst hτ
    have hk' := (sortI_perm _).mem_iff.mp hk
    refine ⟨[s, x1, x2, x3, some (.int k)], rfl, rfl, x_op (x_v ?_) (x_v rfl) (ixd_ok hL' hk')⟩
    match j, hj, ha with
    | 0, _, ha => exact ha
    | 1, _, ha => exact ha
    | 2, _, ha => exact ha
    | 3, _, ha => exact ha) (by omega) (sortI (ks d)).length 0 [] rfl (Nat.le_refl _)
  unfold eDc
  rw [e1, bind_ok, sl]
  rw [show ([] : List (Key × PV)) = dd [] from rfl, c, bind_ok]
  have m : mg [] (((sortI (ks d)).drop 0).map fun k => (k, look d k)) = srt d := by
    rw [List.drop_zero, mg_new _ _ (by simpa using nod_srt hd)]
    rfl
  rw [m]
  simp
/-- what a new Rows is: its slots, and what was made -/
def rowsL (n : Nat) (a b c : KD) : LH := [.sli "Rows" [some (.obj (n + 2)), some (.obj (n + 4)), some (.obj (n + 6))], .lst ((sortI (ks a)).map .int), .dct (dd (srt a)), .lst ((sortI (ks b)).map .int), .dct (dd (srt b)), .lst ((sortI (ks c)).map .int), .dct (dd (srt c))]
theorem lay_ok {L : LH} {i j k : Nat} {a b c : KD} (h1 : L[i]? = some (.dct (dd a))) (h2 : L[j]? = some (.dct (dd b))) (h3 : L[k]? = some (.dct (dd c))) (ha : Ok a) (hb : Ok b) (hc : Ok c) :
    m_Rows_lay [.obj L.length, .obj i, .obj j, .obj k] (L ++ [.ins "Rows" []]) = .ok .non (L ++ rowsL L.length a b c) := by
  have l1 : ("Rows" : Str) == "Rows" := by decide
  refine x_fn0 (τ := [some (.obj L.length), some (.obj i), some (.obj j), some (.obj k), none]) rfl (x_seq (τ' := [some (.obj L.length), some (.obj i), some (.obj j), some (.obj k), none]) (L1 := L ++ [.sli "Rows" [some (.obj (L.length + 2))], .lst ((sortI (ks a)).map .int), .dct (dd (srt a))]) ?_ (x_seq (τ' := [some (.obj L.length), some (.obj i), some (.obj j), some (.obj k), none]) (L1 := L ++ [.sli "Rows" [some (.obj (L.length + 2)), some (.obj (L.length + 4))], .lst ((sortI (ks a)).map .int), .dct (dd (srt a)), .lst ((sortI (ks b)).map .int), .dct (dd (srt b))]) ?_ ?_))
  · have e := dc_ok (j := 1) (L := L ++ [.ins "Rows" []]) (τ := [some (.obj L.length), some (.obj i), some (.obj j), some (.obj k), none]) rfl (by decide) rfl (at_app h1) ha
    unfold sSlt
    rw [show (startP 5 [.obj L.length, .obj i, .obj j, .obj k] : Sl) = [some (.obj L.length), some (.obj i), some (.obj j), some (.obj k), none] from rfl, e, st_ok]
    simp only [eV, List.getElem?_cons_zero, st_ok, sliOf, insOf, List.append_assoc, List.singleton_append, at_new0, set_new0, List.length_append, List.length_cons, List.length_nil]
    rfl
  · have e := dc_ok (j := 2) (L := L ++ [.sli "Rows" [some (.obj (L.length + 2))], .lst ((sortI (ks a)).map .int), .dct (dd (srt a))]) (τ := [some (.obj L.length), some (.obj i), some (.obj j), some (.obj k), none]) rfl (by decide) rfl (at_app h2) hb
    unfold sSlt
    rw [e, st_ok]
    simp only [eV, List.getElem?_cons_zero, st_ok, sliOf, List.append_assoc, List.cons_append, List.nil_append, at_new0, set_new0, List.length_append, List.length_cons, List.length_nil]
    rfl
  · have e := dc_ok (j := 3) (L := L ++ [.sli "Rows" [some (.obj (L.length + 2)), some (.obj (L.length + 4))], .lst ((sortI (ks a)).map .int), .dct (dd (srt a)), .lst ((sortI (ks b)).map .int), .dct (dd (srt b))]) (τ := [some (.obj L.length), some (.obj i), some (.obj j), some (.obj k), none]) rfl (by decide) rfl (at_app h3) hc
    unfold sSlt
    rw [e, st_ok]
    simp only [eV, List.getElem?_cons_zero, st_ok, sliOf, List.append_assoc, List.cons_append, List.nil_append, at_new0, set_new0, List.length_append, List.length_cons, List.length_nil]
    rfl
theorem init_ok {L : LH} {i j k : Nat} {a b c : KD} (h1 : L[i]? = some (.dct (dd a))) (h2 : L[j]? = some (.dct (dd b))) (h3 : L[k]? = some (.dct (dd c))) (ha : Ok a) (hb : Ok b) (hc : Ok c) :
    m_Rows_init [.obj L.length, .obj i, .obj j, .obj k] (L ++ [.ins "Rows" []]) = .ok .non (L ++ rowsL L.length a b c) := by
  have d1 := isdict_ok (L := L ++ [.ins "Rows" []]) (at_app h1) ha
  have d2 := isdict_ok (L := L ++ [.ins "Rows" []]) (at_app h2) hb
  have d3 := isdict_ok (L := L ++ [.ins "Rows" []]) (at_app h3) hc
  have e := lay_ok h1 h2 h3 ha hb hc
  have f : mFindS "lay" [("Rows", m_Rows_lay)] (.obj L.length) (L ++ [.ins "Rows" []]) = some m_Rows_lay := by
    simp only [mFindS, mFind, insOf, at_new0]
    rfl
  simp [PySem.sizeLine_eq, fnB, startP, sRt, sSeq, sIf, sN, sAs, sEx, gN, eAnd, eOr, eNot, eOp, eF, eC, aC, aN, eV, eCh, leF, ltF, gtF, geF, cmpF, truP, tOp2, tNot, tAnd, tOr, tru, tV1, eIf, eQ, eT, vL, m_Rows_init, sFor, iA, loop, Src.len, Src.get, d1, d2, d3, eMe, f, e]
end K16
namespace K16
open PySem PySem.Spec PyProof.Rows FL
open L2 (Key eqDD)
section
variable {L : LH} {τ : Sl} {i j k l : Nat} {a b c : KD} {mr : MA}
theorem mk_ok (hm : mr τ L = .ok [.obj i, .obj j, .obj k] L) (h1 : L[i]? = some (.dct (dd a))) (h2 : L[j]? = some (.dct (dd b))) (h3 : L[k]? = some (.dct (dd c))) (ha : Ok a) (hb : Ok b) (hc : Ok c) :
    eMk "Rows" 3 0 m_Rows_init gP_Rows_3 mr aN τ L = .ok (.obj L.length) (L ++ rowsL L.length a b c) := by
  have e := init_ok h1 h2 h3 ha hb hc
  simp [eMk, hm, x_n, gP_Rows_3, e]
theorem mkk_ok (hm : mr τ L = .ok [.obj k, .obj j, .obj i] L) (h1 : L[i]? = some (.dct (dd a))) (h2 : L[j]? = some (.dct (dd b))) (h3 : L[k]? = some (.dct (dd c))) (ha : Ok a) (hb : Ok b) (hc : Ok c) :
    eMk "Rows" 0 3 m_Rows_init gP_Rows_0_stops_fails_answers aN mr τ L = .ok (.obj L.length) (L ++ rowsL L.length a b c) := by
  have e := init_ok h1 h2 h3 ha hb hc
  simp [eMk, hm, x_n, gP_Rows_0_stops_fails_answers, e]
/-- a thing that is no dict of numbers, and what is shown of it -/
structure Bad (L : LH) (t : PV) (r : Str) : Prop where
  no : ∀ J, m_is_dict_of_numbers [t] (L ++ J) = .ok (.bl false) (L ++ J)
  sh : ∀ J, reprAF [t] (L ++ J) = .ok (.str r) (L ++ J)
theorem init_bad0 {t : PV} {r : Str} (hb : Bad L t r) (x1 x2 : PV) : m_Rows_init [.obj L.length, t, x1, x2] (L ++ [.ins "Rows" []]) = .ex "InvalidRows" [("value", t)] (L ++ [.ins "Rows" []]) := by
  have d1 := hb.no [.ins "Rows" []]
  simp [PySem.sizeLine_eq, fnB, startP, sRt, sSeq, sIf, sN, sAs, sEx, gN, eAnd, eOr, eNot, eOp, eF, eC, aC, aN, eV, eCh, leF, ltF, gtF, geF, cmpF, truP, tOp2, tNot, tAnd, tOr, tru, tV1, eIf, eQ, eT, vL, m_Rows_init, sFor, iA, loop, Src.len, Src.get, d1, sRs]
theorem init_bad1 {t : PV} {r : Str} (hb : Bad L t r) (h1 : L[i]? = some (.dct (dd a))) (ha : Ok a) (x2 : PV) : m_Rows_init [.obj L.length, .obj i, t, x2] (L ++ [.ins "Rows" []]) = .ex "InvalidRows" [("value", t)] (L ++ [.ins "Rows" []]) := by
  have d1 := isdict_ok (L := L ++ [.ins "Rows" []]) (at_app h1) ha
  have d2 := hb.no [.ins "Rows" []]
  simp [PySem.sizeLine_eq, fnB, startP, sRt, sSeq, sIf, sN, sAs, sEx, gN, eAnd, eOr, eNot, eOp, eF, eC, aC, aN, eV, eCh, leF, ltF, gtF, geF, cmpF, truP, tOp2, tNot, tAnd, tOr, tru, tV1, eIf, eQ, eT, vL, m_Rows_init, sFor, iA, loop, Src.len, Src.get, d1, d2, sRs]
theorem init_bad2 {t : PV} {r : Str} (hb : Bad L t r) (h1 : L[i]? = some (.dct (dd a))) (ha : Ok a) (h2 : L[j]? = some (.dct (dd b))) (hB : Ok b) : m_Rows_init [.obj L.length, .obj i, .obj j, t] (L ++ [.ins "Rows" []]) = .ex "InvalidRows" [("value", t)] (L ++ [.ins "Rows" []]) := by
  have d1 := isdict_ok (L := L ++ [.ins "Rows" []]) (at_app h1) ha
  have d2 := isdict_ok (L := L ++ [.ins "Rows" []]) (at_app h2) hB
  have d3 := hb.no [.ins "Rows" []]
  simp [PySem.sizeLine_eq, fnB, startP, sRt, sSeq, sIf, sN, sAs, sEx, gN, eAnd, eOr, eNot, eOp, eF, eC, aC, aN, eV, eCh, leF, ltF, gtF, geF, cmpF, truP, tOp2, tNot, tAnd, tOr, tru, tV1, eIf, eQ, eT, vL, m_Rows_init, sFor, iA, loop, Src.len, Src.get, d1, d2, d3, sRs]
theorem told_of {t x0 x1 x2 : PV} {r : Str} {ys : List PV} (hb : Bad L t r) (hl : L[l]? = some (.lst (x0 :: x1 :: x2 :: ys)))
    (h : m_Rows_init [.obj L.length, x0, x1, x2] (L ++ [.ins "Rows" []]) = .ex "InvalidRows" [("value", t)] (L ++ [.ins "Rows" []])) : m__law_told [.obj l] L = .ok (.str r) L := by
  refine gc_cut (J := [.ins "Rows" []]) ?_ rfl rfl
  have e0 : ixF (.obj l) (.int 0) L = .ok x0 L := x_ix hl ((atI_nat (i := 0) (by simp)).trans rfl)
  have e1 : ixF (.obj l) (.int 1) L = .ok x1 L := x_ix hl ((atI_nat (i := 1) (by simp)).trans rfl)
  have e2 : ixF (.obj l) (.int 2) L = .ok x2 L := x_ix hl ((atI_nat (i := 2) (by simp)).trans rfl)
  have s := hb.sh [.ins "Rows" []]
  simp [PySem.sizeLine_eq, fnB, startP, sRt, sSeq, sIf, sN, sAs, sEx, gN, eAnd, eOr, eNot, eOp, eF, eC, aC, aN, eV, eCh, leF, ltF, gtF, geF, cmpF, truP, tOp2, tNot, tAnd, tOr, tru, tV1, eIf, eQ, eT, vL, sTry, eMk, gP_Rows_3, e0, e1, e2, h, KNOWN, hdlL, eX, s, RS.un, R.bind, R.st]
end
theorem vals_dd (d : KD) : (dd d).map (·.2) = (vs d).map .int := by simp [dd, vs]
theorem keys_dd (d : KD) : (dd d).map (·.1) = (ks d).map Sum.inl := by simp [dd, ks]
theorem Dvs_ints : ∀ l : List Int, Dvs (l.map .int) = l.map .int
  | [] => rfl
  | x :: l => by simp [Dvs, Dv, Dvs_ints l]
theorem okVs_ints (l : List Int) : okVs (l.map .int) = true := okVs_map fun _ _ => rfl
theorem rkVs_ints : ∀ l : List Int, rkVs (l.map .int) ≤ l.length + 1
  | [] => Nat.zero_le _
  | x :: l => by
    have := rkVs_ints l
    simp only [List.map_cons, rkVs, rkV, List.length_cons]
    omega
theorem datL_ints {l : List Int} (h : l.length ≤ 40) (L : LH) : datL L 60 (l.map .int) = some (l.map .int) := by
  rw [datL_eq L _ 60 (okVs_ints l) (Nat.le_trans (rkVs_ints l) (by omega)), Dvs_ints]
theorem len_vs (d : KD) : (vs d).length = d.length := by simp [vs]
theorem zip_di : ∀ d : KD, ((ks d).map Sum.inl : List Key).zip ((vs d).map PyData.int) = di d
  | [] => rfl
  | p :: d => by
    have := zip_di d
    simp only [ks, vs, di, List.map_cons, List.zip_cons_cons] at this ⊢
    rw [this]
theorem eqdg_ok {i j : Nat} {a b : KD} {L : LH} (h1 : L[i]? = some (.dct (dd a))) (h2 : L[j]? = some (.dct (dd b))) (ha : a.length ≤ 40) (hb : b.length ≤ 40) : eqDgF (.obj i) (.obj j) L = .ok (.bl (eqd a b)) L := by
  have sh : ∀ l : List Int, (l.map PyData.int).all SeqAt.shaped = true := fun l => by
    rw [List.all_eq_true]
    intro d hd
    obtain ⟨x, _, rfl⟩ := List.mem_map.mp hd
    rfl
  unfold eqDgF dctR
  simp only [h1, h2, Option.bind_some, dctOf, vals_dd, keys_dd]
  rw [datL_ints (by rw [len_vs]; exact ha), datL_ints (by rw [len_vs]; exact hb)]
  simp only [sh, and_self, if_true, zip_di]
  rfl
/-- the slots of Rows -/
structure RowsAt (L : LH) (n : Nat) (a b c : KD) : Prop where
  ex : ∃ i j k, L[n]? = some (.sli "Rows" [some (.obj i), some (.obj j), some (.obj k)]) ∧ L[i]? = some (.dct (dd a)) ∧ L[j]? = some (.dct (dd b)) ∧ L[k]? = some (.dct (dd c))
theorem RowsAt.app {L J : LH} {n : Nat} {a b c : KD} (h : RowsAt L n a b c) : RowsAt (L ++ J) n a b c := by
  obtain ⟨i, j, k, h0, h1, h2, h3⟩ := h.ex
  exact ⟨i, j, k, at_app h0, at_app h1, at_app h2, at_app h3⟩
theorem rows_new {L J : LH} {a b c : KD} : RowsAt (L ++ (rowsL L.length a b c ++ J)) L.length (srt a) (srt b) (srt c) := by
  refine ⟨L.length + 2, L.length + 4, L.length + 6, at_new0, at_new, at_new, at_new⟩
theorem roweq_ok {L : LH} {n m : Nat} {a b c a' b' c' : KD} (h : RowsAt L n a b c) (h' : RowsAt L m a' b' c') (ha : a.length ≤ 40) (hb : b.length ≤ 40) (hc : c.length ≤ 40) (ha' : a'.length ≤ 40) (hb' : b'.length ≤ 40) (hc' : c'.length ≤ 40) :
    m_Rows_eq [.obj n, .obj m] L = .ok (.bl (eqd a a' && eqd b b' && eqd c c')) L := by
  obtain ⟨i, j, k, h0, h1, h2, h3⟩ := h.ex
  obtain ⟨i', j', k', g0, g1, g2, g3⟩ := h'.ex
  have e1 := eqdg_ok h1 g1 ha ha'
  have e2 := eqdg_ok h2 g2 hb hb'
  have e3 := eqdg_ok h3 g3 hc hc'
  have k1 : kitL TAB (.c "Rows") (.c "Rows") = some true := by decide +kernel
  have ei : isiS SS CS TAB [.obj m, .glo "Rows"] L = .ok (.bl true) L := by
    simp [isiS, sliOf, g0, SS, clsOf, k1]
  cases q1 : eqd a a' <;> cases q2 : eqd b b' <;> simp [PySem.sizeLine_eq, fnB, startP, sRt, sSeq, sIf, sN, sAs, sEx, gN, eAnd, eOr, eNot, eOp, eF, eC, aC, aN, eV, eCh, leF, ltF, gtF, geF, cmpF, truP, tOp2, tNot, tAnd, tOr, tru, tV1, eIf, eQ, eT, vL, m_Rows_eq, ei, eSlt, sliOf, h0, g0, e1, e2, e3, q1, q2]
theorem roweq_no {L : LH} {n m : Nat} {xs : List PV} (h : L[m]? = some (.lst xs)) : m_Rows_eq [.obj n, .obj m] L = .ok (.bl false) L := by
  have k1 : kitL TAB (.b "list") (.c "Rows") = some false := by decide +kernel
  have ei : isiS SS CS TAB [.obj m, .glo "Rows"] L = .ok (.bl false) L := by
    simp [isiS, sliOf, isOdd, h, isiF, tpOf, clsOf, k1]
  simp [PySem.sizeLine_eq, fnB, startP, sRt, sSeq, sIf, sN, sAs, sEx, gN, eAnd, eOr, eNot, eOp, eF, eC, aC, aN, eV, eCh, leF, ltF, gtF, geF, cmpF, truP, tOp2, tNot, tAnd, tOr, tru, tV1, eIf, eQ, eT, vL, m_Rows_eq, ei]
theorem dict_copy {L : LH} {i : Nat} {a : KD} (h : L[i]? = some (.dct (dd a))) : dictF [.obj i] L = .ok (.obj L.length) (L ++ [.dct (dd a)]) := by
  unfold dictF dctX
  simp only [h, Option.bind_some, dctOf]
theorem answers_ok {L : LH} {n : Nat} {a b c : KD} (h : RowsAt L n a b c) : m_Rows_answers [.obj n] L = .ok (.obj L.length) (L ++ [.dct (dd a)]) := by
  obtain ⟨i, j, k, h0, h1, h2, h3⟩ := h.ex
  have e := dict_copy h1
  simp [PySem.sizeLine_eq, fnB, startP, sRt, sSeq, sIf, sN, sAs, sEx, gN, eAnd, eOr, eNot, eOp, eF, eC, aC, aN, eV, eCh, leF, ltF, gtF, geF, cmpF, truP, tOp2, tNot, tAnd, tOr, tru, tV1, eIf, eQ, eT, vL, m_Rows_answers, eSlt, sliOf, h0, e]
theorem fails_ok {L : LH} {n : Nat} {a b c : KD} (h : RowsAt L n a b c) : m_Rows_fails [.obj n] L = .ok (.obj L.length) (L ++ [.dct (dd b)]) := by
  obtain ⟨i, j, k, h0, h1, h2, h3⟩ := h.ex
  have e := dict_copy h2
  simp [PySem.sizeLine_eq, fnB, startP, sRt, sSeq, sIf, sN, sAs, sEx, gN, eAnd, eOr, eNot, eOp, eF, eC, aC, aN, eV, eCh, leF, ltF, gtF, geF, cmpF, truP, tOp2, tNot, tAnd, tOr, tru, tV1, eIf, eQ, eT, vL, m_Rows_fails, eSlt, sliOf, h0, e]
theorem stops_ok {L : LH} {n : Nat} {a b c : KD} (h : RowsAt L n a b c) : m_Rows_stops [.obj n] L = .ok (.obj L.length) (L ++ [.dct (dd c)]) := by
  obtain ⟨i, j, k, h0, h1, h2, h3⟩ := h.ex
  have e := dict_copy h3
  simp [PySem.sizeLine_eq, fnB, startP, sRt, sSeq, sIf, sN, sAs, sEx, gN, eAnd, eOr, eNot, eOp, eF, eC, aC, aN, eV, eCh, leF, ltF, gtF, geF, cmpF, truP, tOp2, tNot, tAnd, tOr, tru, tV1, eIf, eQ, eT, vL, m_Rows_stops, eSlt, sliOf, h0, e]
def gv (l : List Int) : PV := if l = [] then .non else .int (maxN l)
theorem greater_ok (l : List Int) (x : Int) (L : LH) : m_greater [gv l, .int x] L = .ok (gv (l ++ [x])) L := by
  cases l with
  | nil => kernel_rfl
  | cons y l =>
    have k1 : kitL TAB (.b "int") (.b "tuple") = some false := by decide +kernel
    have e1 : ∀ m : Int, isiS SS CS TAB [.int m, .ty "tuple"] L = .ok (.bl false) L := fun m => by simp [isiS, sliOf, isOdd, isiF, tpOf, clsOf, k1]
    have e2 : gv (y :: l ++ [x]) = .int (max (maxN (y :: l)) x) := by
      simp [gv, maxN, List.foldl_append]
    rw [e2]
    have e3 : gv (y :: l) = .int (maxN (y :: l)) := by simp [gv]
    rw [e3]
    generalize maxN (y :: l) = m
    have e4 : (if x > m then x else m) = max m x := by
      simp only [Int.max_def]
      split <;> split <;> omega
    simp [PySem.sizeLine_eq, fnB, startP, sRt, sSeq, sIf, sN, sAs, sEx, gN, eAnd, eOr, eNot, eOp, eF, eC, aC, aN, eV, eCh, leF, ltF, gtF, geF, cmpF, truP, tOp2, tNot, tAnd, tOr, tru, tV1, eIf, eQ, eT, vL, m_greater, isNF, FL.isNon, e1, max2F, e4]
theorem greatest_ok {L : LH} {n : Nat} {l : List Int} (h : L[n]? = some (.lst (l.map .int))) : m_greatest [.obj n] L = .ok (gv l) L := by
  have sl : (Src.at_ n).len L = (l.map PV.int).length := by simp [Src.len, h]
  obtain ⟨τ', L', e, ⟨x2, rfl⟩, rfl⟩ := for_gen (s := .at_ n) (xs := l.map .int) (mi := iA (eV 0)) (g := gN 2) (b := sAs (eF m_greater (aC (eV 1) (aC (eV 2) aN))) (gN 1)) (L := L) (L0 := L) (τ := [some (.obj n), some .non, none])
    (fun i τ L' => (∃ x2, τ = [some (.obj n), some (gv (l.take i)), x2]) ∧ L' = L) (by
      unfold iA
      rw [x_v rfl, bind_ok]
      simp only [h]) sl (fun i τ L' hI => by rw [hI.2]; exact reads_at h) ⟨⟨none, rfl⟩, rfl⟩ (fun i x τ L' hx hI => by
      obtain ⟨⟨x2, rfl⟩, rfl⟩ := hI
      rw [List.getElem?_map] at hx
      obtain ⟨y, hy, rfl⟩ := Option.map_eq_some_iff.mp hx
      have tk : l.take (i + 1) = l.take i ++ [y] := by rw [List.take_add_one, hy]; rfl
      exact ⟨_, _, _, rfl, x_as (x_f (x_a (x_v rfl) (x_a (x_v rfl) x_n)) (greater_ok (l.take i) y L')) rfl, ⟨some (.int y), by rw [tk]; rfl⟩, rfl⟩)
  rw [List.length_map, List.take_length] at e
  exact x_fn rfl (x_seq (x_as x_c rfl) (x_seq e (x_rt (x_v rfl))))
theorem rgreatest_ok {L : LH} {n : Nat} {a b c : KD} (h : RowsAt L n a b c) (ha : a.length ≤ 40) (hb : b.length ≤ 40) : m_Rows_greatest [.obj n] L = .ok (gv (vs a ++ vs b)) L := by
  obtain ⟨i, j, k, h0, h1, h2, h3⟩ := h.ex
  have g : m_greatest [.obj L.length] (L ++ [.lst ((vs a ++ vs b).map .int)]) = .ok (gv (vs a ++ vs b)) (L ++ [.lst ((vs a ++ vs b).map .int)]) := greatest_ok at_new0
  refine gc_cut (J := [.lst ((vs a ++ vs b).map .int)]) ?_ ?_ ?_
  · have v1 := vals_dd a
    have v2 := vals_dd b
    have hz : (vs a).length + (vs b).length ≤ 16777216 := by rw [len_vs, len_vs]; omega
    refine x_fn rfl (x_rt (x_f (x_a (x := .obj L.length) (L1 := L ++ [.lst ((vs a ++ vs b).map .int)]) ?_ x_n) g))
    simp [PySem.sizeLine_eq, fnB, startP, sRt, sSeq, sIf, sN, sAs, sEx, gN, eAnd, eOr, eNot, eOp, eF, eC, aC, aN, eV, eCh, leF, ltF, gtF, geF, cmpF, truP, tOp2, tNot, tAnd, tOr, tru, tV1, eIf, eQ, eT, vL, eNew, aSV, eSlt, sliOf, h0, h1, h2, v1, v2, hz]
  · unfold gv; split <;> rfl
  · unfold gv; split <;> rfl
end K16
namespace K16
open PySem PySem.Spec PyProof.Rows FL
open L2 (Key eqDD)
theorem draw1 {H : LH} {c s m : Int} (h : Pl s) (m0 : 0 < m) (m1 : m < 1000) : ∃ d c' s' : Int, 0 ≤ d ∧ d < m ∧ Pl s' ∧ m__law_draw [.obj 0, .int m] (Q c s :: H) = .ok (.int d) (Q c' s' :: H) := draw_ok (p := 0) rfl h m0 m1
def tupOf (p : Int × Int) : PV := .tup [.int p.1, .int p.2]
noncomputable def pairM : ME := eT (aC (eF m__law_draw (aC (eV 0) (aC (eC (.int 30)) aN))) (aC (eOp subF (eF m__law_draw (aC (eV 0) (aC (eC (.int 40)) aN))) (eC (.int 9))) aN))
theorem pair_ok {H : LH} {τ : Sl} {c s : Int} (h0 : τ[0]? = some (some (.obj 0))) (h : Pl s) : ∃ (p : Int × Int) (c' s' : Int), 0 ≤ p.1 ∧ p.1 < 40 ∧ Pl s' ∧ pairM τ (Q c s :: H) = .ok (tupOf p) (Q c' s' :: H) := by
  obtain ⟨t, c1, s1, t0, t1, h1, e1⟩ := draw1 (H := H) (c := c) h (m := 30) (by omega) (by omega)
  obtain ⟨v, c2, s2, v0, v1, h2, e2⟩ := draw1 (H := H) (c := c1) h1 (m := 40) (by omega) (by omega)
  refine ⟨(t, v - 9), c2, s2, t0, by show t < 40; omega, h2, ?_⟩
  have v0 : ∀ L : LH, eV 0 τ L = .ok (.obj 0) L := fun L => x_v h0
  simp [PySem.sizeLine_eq, fnB, startP, sRt, sSeq, sIf, sN, sAs, sEx, gN, eAnd, eOr, eNot, eOp, eF, eC, aC, aN, eV, eCh, leF, ltF, gtF, geF, cmpF, truP, tOp2, tNot, tAnd, tOr, tru, tV1, eIf, eQ, eT, vL, pairM, tupOf, h0, e1, e2, subF]
theorem comp_draw {H : LH} {xs : List PV} (hz : xs.length ≤ 100) : ∀ (n i : Nat) (acc : List PV) (c s : Int), n + i = xs.length → acc.length ≤ i → Pl s →
    ∃ (ps : KD) (c' s' : Int), ps.length = n ∧ (∀ p ∈ ps, 0 ≤ p.1 ∧ p.1 < 40) ∧ Pl s' ∧ compL (.vals xs) (gN 1) tY pairM (n + 1) i acc [some (.obj 0), none] (Q c s :: H) = .ok (acc ++ ps.map tupOf) (Q c' s' :: H) := by
  intro n
  induction n with
  | zero =>
    intro i acc c s hn ha h
    refine ⟨[], c, s, rfl, (fun p hp => nomatch hp), h, ?_⟩
    have e : xs[i]? = none := List.getElem?_eq_none (by omega)
    have hl : acc.length ≤ sizeLine := Nat.le_trans (show acc.length ≤ 100 by omega) (by decide)
    unfold compL
    simp only [Src.get, e]
    rw [if_pos hl]
    simp
  | succ n ih =>
    intro i acc c s hn ha h
    have hi : i < xs.length := by omega
    have e : xs[i]? = some xs[i] := List.getElem?_eq_getElem hi
    obtain ⟨p, c1, s1, p0, p1, h1, e1⟩ := pair_ok (H := H) (τ := [some (.obj 0), some xs[i]]) (c := c) rfl h
    obtain ⟨ps, c2, s2, hl, hp, h2, e2⟩ := ih (i + 1) (acc ++ [tupOf p]) c1 s1 (by omega) (by simp; omega) h1
    refine ⟨p :: ps, c2, s2, by simp [hl], fun q hq => ?_, h2, ?_⟩
    · rcases List.mem_cons.mp hq with rfl | hq
      · exact ⟨p0, p1⟩
      · exact hp q hq
    · have hl : acc.length < sizeLine := Nat.lt_of_le_of_lt (show acc.length ≤ 100 by omega) (by decide)
      unfold compL
      simp only [Src.get, e]
      show (match (R.ok [some (.obj 0), some xs[i]] (Q c s :: H) : R Sl) with | .ok τ1 _ => _ | _ => R.no) = _
      simp only [tY, bind0_ok, if_true]
      rw [show ([some (PV.obj 0), none] : Sl).set 1 (some xs[i]) = [some (.obj 0), some xs[i]] from rfl, e1, bind0_ok, if_pos hl, e2]
      simp
theorem pairsK_tup : ∀ ps : KD, pairsK (ps.map tupOf) = some (dd ps)
  | [] => rfl
  | p :: ps => by
    show (match pairK (tupOf p) with | some q => (pairsK (ps.map tupOf)).map (q :: ·) | none => none) = _
    rw [pairsK_tup ps]
    rfl
theorem dict_of {L : LH} {n : Nat} {ps : KD} (h : L[n]? = some (.lst (ps.map tupOf))) : dictF [.obj n] L = .ok (.obj L.length) (L ++ [.dct (dd (mg [] ps))]) := by
  unfold dictF dctX
  simp only [h, Option.bind_some, dctOf, pairsK_tup]
  rw [show ([] : List (Key × PV)) = dd [] from rfl, mergeD_dd]
theorem drawn_ok {H : LH} {c s : Int} (h : Pl s) : ∃ (d : KD) (ps : List PV) (c' s' : Int), Ok d ∧ ((∀ k ∈ ks d, k < 40) ∧ d.length ≤ 8) ∧ Pl s' ∧ m__law_drawn [.obj 0] (Q c s :: H) = .ok (.obj (H.length + 2)) (Q c' s' :: (H ++ [.lst ps, .dct (dd d)])) := by
  obtain ⟨n, c1, s1, n0, n1, h1, e1⟩ := draw1 (H := H) (c := c) h (m := 5) (by omega) (by omega)
  obtain ⟨ps, c2, s2, hl, hp, h2, e2⟩ := comp_draw (H := H) (xs := (List.range n.toNat).map fun k => PV.int (0 + (k : Nat))) (by simp; omega) n.toNat 0 [] c1 s1 (by simp) (Nat.le_refl _) h1
  obtain ⟨ok, ok2⟩ := mg_ok ps [] List.nodup_nil (fun k hk => by cases hk) hp (by simp; omega)
  refine ⟨mg [] ps, ps.map tupOf, c2, s2, ok, ok2, h2, ?_⟩
  have e3 : iR1 (aC (eF m__law_draw (aC (eV 0) (aC (eC (.int 5)) aN))) aN) [some (.obj 0), none] (Q c s :: H) = .ok (.vals ((List.range n.toNat).map fun k => PV.int (0 + (k : Nat)))) (Q c1 s1 :: H) := by
    unfold iR1
    rw [x_a (x_f (x_a (x_v rfl) (x_a x_c x_n)) e1) x_n, bind_ok]
    exact if_pos ⟨by omega, by omega⟩
  have e4 : vC (iR1 (aC (eF m__law_draw (aC (eV 0) (aC (eC (.int 5)) aN))) aN)) (gN 1) tY pairM [1] [some (.obj 0), none] (Q c s :: H) = .ok (ps.map tupOf) (Q c2 s2 :: H) := by
    unfold vC
    rw [e3, bind_ok]
    have sl : (Src.vals ((List.range n.toNat).map fun k => PV.int (0 + (k : Nat)))).len (Q c1 s1 :: H) = n.toNat := by simp [Src.len]
    rw [sl]
    exact e2.trans (by simp)
  have e5 : dictF [.obj (H.length + 1)] (Q c2 s2 :: (H ++ [.lst (ps.map tupOf)])) = .ok (.obj (H.length + 2)) (Q c2 s2 :: (H ++ [.lst (ps.map tupOf), .dct (dd (mg [] ps))])) := by
    have hh : (Q c2 s2 :: (H ++ [LO.lst (ps.map tupOf)]))[H.length + 1]? = some (.lst (ps.map tupOf)) := by simp
    rw [dict_of hh]
    simp
  exact x_fn rfl (x_rt (x_f (x_a (x := .obj (H.length + 1)) (L1 := Q c2 s2 :: (H ++ [.lst (ps.map tupOf)])) (by
    unfold eNew
    rw [show vC (iR1 (aC (eF m__law_draw (aC (eV 0) (aC (eC (.int 5)) aN))) aN)) (gN 1) tY (eT (aC (eF m__law_draw (aC (eV 0) (aC (eC (.int 30)) aN))) (aC (eOp subF (eF m__law_draw (aC (eV 0) (aC (eC (.int 40)) aN))) (eC (.int 9))) aN))) [1] (startP 2 [.obj 0]) (Q c s :: H) = _ from e4]
    rfl) x_n) e5))
/-- dict(list(d.items())[::-1]) -/
theorem items_dd (d : KD) : (dd d).map (fun kv => PV.tup [kP kv.1, kv.2]) = d.map tupOf := by simp [dd, tupOf, kP]
theorem hand_ok {L : LH} {τ : Sl} {n : Nat} {d : KD} (hτ : τ[7]? = some (some (.obj n))) (h : L[n]? = some (.dct (dd d))) (hd : Ok d) :
    eF dictF (aC (eRev (eIs (eV 7)) (oS (eUn negF (eC (.int 1))))) aN) τ L = .ok (.obj (L.length + 2)) (L ++ [.lst (d.map tupOf), .lst (d.reverse.map tupOf), .dct (dd d.reverse)]) := by
  have e1 : eIs (eV 7) τ L = .ok (.obj L.length) (L ++ [.lst (d.map tupOf)]) := by
    unfold eIs
    rw [x_v hτ, bind_ok]
    simp only [h, items_dd]
  have e2 : eRev (eIs (eV 7)) (oS (eUn negF (eC (.int 1)))) τ L = .ok (.obj (L.length + 1)) (L ++ [.lst (d.map tupOf), .lst (d.reverse.map tupOf)]) := by
    unfold eRev
    rw [e1, bind_ok]
    show (R.ok (some (-1)) (L ++ [LO.lst (d.map tupOf)])).bind _ = _
    rw [bind_ok, if_pos rfl]
    have hz : (d.map tupOf).length ≤ sizeLine := by rw [List.length_map]; exact Nat.le_trans hd.len (by decide)
    unfold revF
    simp [at_new0]
  have e3 : dictF [.obj (L.length + 1)] (L ++ [.lst (d.map tupOf), .lst (d.reverse.map tupOf)]) = .ok (.obj (L.length + 2)) (L ++ [.lst (d.map tupOf), .lst (d.reverse.map tupOf), .dct (dd d.reverse)]) := by
    rw [dict_of (ps := d.reverse) at_new, mg_self (rev_ok hd)]
    simp
  exact x_f (x_a e2 x_n) e3
end K16
namespace K16
open PySem PySem.Spec PyProof.Rows FL
open L2 (Key eqDD)
section
variable {τ τ' τ0 τ1 τ2 τ3 : Sl} {L L0 L1 L2 L3 : LH} {s : Src} {mi : MI} {g : MG} {b : MS} {me : ME} {own : List Nat} {a0 a1 a2 v0 v1 v2 x : PV} {n i : Nat} {r : RS} {mv : MV} {ys : List PV}
theorem vc3 (hi : mi τ L = .ok s L0) (sl : s.len L0 = 3) (q0 : s.get L0 0 = some (some a0)) (q1 : s.get L1 1 = some (some a1)) (q2 : s.get L2 2 = some (some a2)) (q3 : s.get L3 3 = some none)
    (h0 : g a0 (wipeP τ own) L0 = .ok τ0 L0) (h1 : g a1 (wipeP τ own) L1 = .ok τ1 L1) (h2 : g a2 (wipeP τ own) L2 = .ok τ2 L2) (e0 : me τ0 L0 = .ok v0 L1) (e1 : me τ1 L1 = .ok v1 L2) (e2 : me τ2 L2 = .ok v2 L3) :
    vC mi g tY me own τ L = .ok [v0, v1, v2] L3 := by
  unfold vC
  rw [hi, bind_ok, sl]
  simp [compL, q0, q1, q2, q3, h0, h1, h2, e0, e1, e2, tY, PySem.sizeLine_eq]
theorem lp_s (h1 : s.get L i = some (some x)) (h2 : g x τ L = .ok τ1 L) (h3 : b τ1 L = .nx τ2 L2) (h4 : loop s g b n (i + 1) τ2 L2 = r) : loop s g b (n + 1) i τ L = r := by
  unfold loop
  rw [h1]
  dsimp only
  rw [h2]
  dsimp only
  rw [h3]
  exact h4
theorem lp_e (h : s.get L i = some none) : loop s g b (n + 1) i τ L = .nx τ L := by
  unfold loop
  rw [h]
theorem x_for (hi : mi τ L = .ok s L0) (sl : s.len L0 = n) (h : loop s g b (n + 1) 0 τ L0 = r) : sFor mi g b τ L = r := by
  unfold sFor
  rw [hi]
  show loop s g b (s.len L0 + 1) 0 τ L0 = r
  rw [sl]
  exact h
theorem x_iA (h : me τ L = .ok (.obj n) L1) (hl : L1[n]? = some (.lst ys)) : iA me τ L = .ok (.at_ n) L1 := by
  unfold iA
  rw [h, bind_ok]
  simp only [hl]
theorem x_new (h : mv τ L = .ok ys L1) : eNew mv τ L = .ok (.obj L1.length) (L1 ++ [.lst ys]) := by
  unfold eNew
  rw [h, bind_ok]
theorem x_vL {ma : MA} (h : ma τ L = .ok ys L1) (hz : ys.length ≤ sizeLine := by rw [PySem.sizeLine_eq]; simp) : vL ma τ L = .ok ys L1 := by
  unfold vL
  rw [h, bind_ok, if_pos hz]
theorem x_ex (h : me τ L = .ok x L1) : sEx me τ L = .nx τ L1 := by
  unfold sEx
  rw [h, st_ok]
theorem x_par {is : List Nat} {ma : MA} (h : ma τ L = .ok ys L1) (hl : ys.length = is.length) (hs : setAll is ys τ = τ') : sPar is ma τ L = .nx τ' L1 := by
  unfold sPar
  rw [h, st_ok, if_pos hl, hs]
theorem x_clear {kvs : List (Key × PV)} (h : τ[7]? = some (some (.obj n))) (hl : L[n]? = some (.dct kvs)) : sEx (eBm isDc clearDF (eV 7) aN) τ L = .nx τ (L.set n (.dct [])) := by
  refine x_ex (x := .non) ?_
  unfold eBm
  rw [x_v h, bind_ok]
  simp [isDc, hl, aN, clearDF]
theorem x_at {f : Str} {m : Fn} {a b c : KD} (hτ : τ[8]? = some (some (.obj n))) (h : RowsAt L n a b c) (hm : m [.obj n] L = .ok x L1) : eAt f [] [("Rows", m)] (eV 8) τ L = .ok x L1 := by
  obtain ⟨i, j, k, h0, _⟩ := h.ex
  unfold eAt
  rw [x_v hτ, bind_ok]
  simp [insOf, sliOf, h0, List.lookup, hm, R.noex]
theorem x_if0 {c : MT} (h : c τ L = .ok false L1) : sIf c b sN τ L = .nx τ L1 := by
  unfold sIf
  rw [h]
  rfl
theorem x_gc0 {c : MT} {J : LH} (h : c τ L = .ok false (L ++ J)) : sIf (gcT2 c) b sN τ L = .nx τ L := x_if0 (x_gcT2 h)
structure LsAt (L : LH) (n a b c : Nat) (x y z : KD) : Prop where
  l : L[n]? = some (.lst [.obj a, .obj b, .obj c])
  a : L[a]? = some (.dct (dd x))
  b : L[b]? = some (.dct (dd y))
  c : L[c]? = some (.dct (dd z))
theorem LsAt.app {L J : LH} {n a b c : Nat} {x y z : KD} (h : LsAt L n a b c x y z) : LsAt (L ++ J) n a b c x y z := ⟨at_app h.l, at_app h.a, at_app h.b, at_app h.c⟩
theorem eqLO_ok {m a b c a' b' c' : Nat} {x y z x' y' z' : KD} {nf : List Tp} {ms : List (Str × Fn)} (h : LsAt L n a b c x y z) (h' : LsAt L m a' b' c' x' y' z') (na : a ≠ a') (nb : b ≠ b') (nc : c ≠ c')
    (hx : x.length ≤ 40) (hy : y.length ≤ 40) (hz : z.length ≤ 40) (hx' : x'.length ≤ 40) (hy' : y'.length ≤ 40) (hz' : z'.length ≤ 40) : eqLO nf ms (.obj n) (.obj m) L = .ok (.bl (eqd x x' && eqd y y' && eqd z z')) L := by
  have e1 := eqdg_ok h.a h'.a hx hx'
  have e2 := eqdg_ok h.b h'.b hy hy'
  have e3 := eqdg_ok h.c h'.c hz hz'
  have l1 := h.l; have l2 := h'.l; have a1 := h.a; have a2 := h.b; have a3 := h.c
  cases q1 : eqd x x' <;> cases q2 : eqd y y' <;> cases q3 : eqd z z' <;> rw [q1] at e1 <;> rw [q2] at e2 <;> rw [q3] at e3 <;> simp [eqLO, lsO, l1, l2, eqLs, itEq, na, nb, nc, eqFind, insOf, sliOf, a1, a2, a3, dctR, dctOf, e1, e2, e3, R.noex, eqLsB]
theorem eqD_ls {m a b c a' b' c' : Nat} {x y z x' y' z' : KD} (h : LsAt L n a b c x y z) (h' : LsAt L m a' b' c' x' y' z') : eqD L (.obj n) (.obj m) = none := by
  have l1 := h.l; have l2 := h'.l; have a1 := h.a; have a2 := h'.a
  simp [eqD, dat, datL, l1, l2, a1, a2]
theorem eqFind_ls {m a b c : Nat} {x y z : KD} {ms : List (Str × Fn)} (h : LsAt L n a b c x y z) : eqFind ms (.obj n) L = none := by
  have l1 := h.l
  simp [eqFind, insOf, sliOf, l1]
theorem eqA_ls {m a b c a' b' c' : Nat} {x y z x' y' z' : KD} {nf : List Tp} {ms : List (Str × Fn)} (h : LsAt L n a b c x y z) (h' : LsAt L m a' b' c' x' y' z') (na : a ≠ a') (nb : b ≠ b') (nc : c ≠ c')
    (hx : x.length ≤ 40) (hy : y.length ≤ 40) (hz : z.length ≤ 40) (hx' : x'.length ≤ 40) (hy' : y'.length ≤ 40) (hz' : z'.length ≤ 40) : eqAF nf ms (.obj n) (.obj m) L = .ok (.bl (eqd x x' && eqd y y' && eqd z z')) L := by
  have e := eqLO_ok (nf := nf) (ms := ms) h h' na nb nc hx hy hz hx' hy' hz'
  have l1 := h.l
  unfold eqAF
  rw [eqFind_ls (m := m) h, eqD_ls h h']
  simp [dctAt, l1, e]
theorem neA_ls {m a b c a' b' c' : Nat} {x y z x' y' z' : KD} {nf : List Tp} {ms : List (Str × Fn)} (h : LsAt L n a b c x y z) (h' : LsAt L m a' b' c' x' y' z') (na : a ≠ a') (nb : b ≠ b') (nc : c ≠ c')
    (hx : x.length ≤ 40) (hy : y.length ≤ 40) (hz : z.length ≤ 40) (hx' : x'.length ≤ 40) (hy' : y'.length ≤ 40) (hz' : z'.length ≤ 40) : neAF nf ms (.obj n) (.obj m) L = .ok (.bl (!(eqd x x' && eqd y y' && eqd z z'))) L := by
  have e := eqLO_ok (nf := nf) (ms := ms) h h' na nb nc hx hy hz hx' hy' hz'
  unfold neAF
  rw [eqFind_ls (m := m) h, eqD_ls h h']
  simp [flipB, e]
end
end K16
namespace K16
open PySem PySem.Spec PyProof.Rows FL
open L2 (Key eqDD)
/-- what is drawn -/
structure Dr where
  p1 : List PV
  p2 : List PV
  p3 : List PV
  p4 : List PV
  p5 : List PV
  p6 : List PV
  d1 : KD
  d2 : KD
  d3 : KD
  d4 : KD
  d5 : KD
  d6 : KD
structure Dr.Ok (D : Dr) : Prop where
  o1 : K16.Ok D.d1
  o2 : K16.Ok D.d2
  o3 : K16.Ok D.d3
  o4 : K16.Ok D.d4
  o5 : K16.Ok D.d5
  o6 : K16.Ok D.d6
  n1 : (∀ k ∈ ks D.d1, k < 40) ∧ D.d1.length ≤ 8
  n2 : (∀ k ∈ ks D.d2, k < 40) ∧ D.d2.length ≤ 8
  n3 : (∀ k ∈ ks D.d3, k < 40) ∧ D.d3.length ≤ 8
def Ha (D : Dr) : LH := [.lst D.p1, .dct (dd D.d1), .lst D.p2, .dct (dd D.d2), .lst D.p3, .dct (dd D.d3), .lst [.obj 2, .obj 4, .obj 6],
  .lst D.p4, .dct (dd D.d4), .lst D.p5, .dct (dd D.d5), .lst D.p6, .dct (dd D.d6), .lst [.obj 9, .obj 11, .obj 13]]
abbrev T (sc : PV) (k : Int) (r : List (Option PV)) : Sl := some sc :: some (.int k) :: r
section
variable {sc : PV} {kk : Int}
theorem b0_ok (ns : List Int) (k : Nat) (hk : k < 100) (r : List (Option PV)) : ∃ c s, Pl s ∧ b_0 (T (.rol (ns.map .int)) k (none :: r)) [] = .nx (T (.rol (ns.map .int)) k (some (.obj 0) :: r)) [Q c s] := by
  obtain ⟨c, s, h, e⟩ := pool_ok (ns := ns) hk
  exact ⟨c, s, h, x_as (x_f (x_a (x_v rfl) (x_a (x_v rfl) x_n)) e) rfl⟩
theorem b1_ok {c s : Int} (h : Pl s) : ∃ (D : Dr) (c' s' : Int), D.Ok ∧ Pl s' ∧ b_1 (T sc kk [some (.obj 0), none, none, none, none, none, none, none, none, none, none, none]) [Q c s] =
    .nx (T sc kk [some (.obj 0), some (.obj 7), some (.obj 14), none, none, none, none, none, none, none, none, none]) (Q c' s' :: Ha D) := by
  obtain ⟨d1, p1, c1, s1, k1, n1, h1, e1⟩ := drawn_ok (H := []) (c := c) h
  obtain ⟨d2, p2, c2, s2, k2, n2, h2, e2⟩ := drawn_ok (H := [.lst p1, .dct (dd d1)]) (c := c1) h1
  obtain ⟨d3, p3, c3, s3, k3, n3, h3, e3⟩ := drawn_ok (H := [.lst p1, .dct (dd d1), .lst p2, .dct (dd d2)]) (c := c2) h2
  obtain ⟨d4, p4, c4, s4, k4, _, h4, e4⟩ := drawn_ok (H := [.lst p1, .dct (dd d1), .lst p2, .dct (dd d2), .lst p3, .dct (dd d3), .lst [.obj 2, .obj 4, .obj 6]]) (c := c3) h3
  obtain ⟨d5, p5, c5, s5, k5, _, h5, e5⟩ := drawn_ok (H := [.lst p1, .dct (dd d1), .lst p2, .dct (dd d2), .lst p3, .dct (dd d3), .lst [.obj 2, .obj 4, .obj 6], .lst p4, .dct (dd d4)]) (c := c4) h4
  obtain ⟨d6, p6, c6, s6, k6, _, h6, e6⟩ := drawn_ok (H := [.lst p1, .dct (dd d1), .lst p2, .dct (dd d2), .lst p3, .dct (dd d3), .lst [.obj 2, .obj 4, .obj 6], .lst p4, .dct (dd d4), .lst p5, .dct (dd d5)]) (c := c5) h5
  refine ⟨⟨p1, p2, p3, p4, p5, p6, d1, d2, d3, d4, d5, d6⟩, c6, s6, ⟨k1, k2, k3, k4, k5, k6, n1, n2, n3⟩, h6, ?_⟩
  have ir : ∀ L : LH, iR1 (aC (eC (.int 3)) aN) (T sc kk [some (.obj 0), none, none, none, none, none, none, none, none, none, none, none]) L = .ok (.vals [.int 0, .int 1, .int 2]) L := fun L => by kernel_rfl
  have f : ∀ (x : Int) {L L1 : LH} {v : PV}, m__law_drawn [.obj 0] L = .ok v L1 → eF m__law_drawn (aC (eV 2) aN) (T sc kk [some (.obj 0), none, none, some (.int x), none, none, none, none, none, none, none, none]) L = .ok v L1 := fun x {L L1 v} e => x_f (x_a (x_v rfl) x_n) e
  refine x_par (ys := [.obj 7, .obj 14]) (x_a (L1 := Q c3 s3 :: [.lst p1, .dct (dd d1), .lst p2, .dct (dd d2), .lst p3, .dct (dd d3), .lst [.obj 2, .obj 4, .obj 6]]) (x_new (L1 := Q c3 s3 :: [.lst p1, .dct (dd d1), .lst p2, .dct (dd d2), .lst p3, .dct (dd d3)])
    (vc3 (L0 := [Q c s]) (L1 := Q c1 s1 :: [.lst p1, .dct (dd d1)]) (L2 := Q c2 s2 :: [.lst p1, .dct (dd d1), .lst p2, .dct (dd d2)]) (v0 := .obj 2) (v1 := .obj 4) (v2 := .obj 6) (ir _) rfl rfl rfl rfl rfl rfl rfl rfl (f 0 e1) (f 1 e2) (f 2 e3)))
    (x_a (x_new (L1 := Q c6 s6 :: [.lst p1, .dct (dd d1), .lst p2, .dct (dd d2), .lst p3, .dct (dd d3), .lst [.obj 2, .obj 4, .obj 6], .lst p4, .dct (dd d4), .lst p5, .dct (dd d5), .lst p6, .dct (dd d6)])
    (vc3 (L1 := Q c4 s4 :: [.lst p1, .dct (dd d1), .lst p2, .dct (dd d2), .lst p3, .dct (dd d3), .lst [.obj 2, .obj 4, .obj 6], .lst p4, .dct (dd d4)]) (L2 := Q c5 s5 :: [.lst p1, .dct (dd d1), .lst p2, .dct (dd d2), .lst p3, .dct (dd d3), .lst [.obj 2, .obj 4, .obj 6], .lst p4, .dct (dd d4), .lst p5, .dct (dd d5)]) (v0 := .obj 9) (v1 := .obj 11) (v2 := .obj 13) (ir _) rfl rfl rfl rfl rfl rfl rfl rfl (f 0 e4) (f 1 e5) (f 2 e6))) x_n)) rfl rfl
/-- handed in -/
def Hb (D : Dr) (x y z : KD) : LH := [.lst (D.d1.map tupOf), .lst (D.d1.reverse.map tupOf), .dct (dd x), .lst (D.d2.map tupOf), .lst (D.d2.reverse.map tupOf), .dct (dd y), .lst (D.d3.map tupOf), .lst (D.d3.reverse.map tupOf), .dct (dd z), .lst [.obj 17, .obj 20, .obj 23]]
theorem b2_ok {c s : Int} {D : Dr} (hD : D.Ok) : b_2 (T sc kk [some (.obj 0), some (.obj 7), some (.obj 14), none, none, none, none, none, none, none, none, none]) (Q c s :: Ha D) =
    .nx (T sc kk [some (.obj 0), some (.obj 7), some (.obj 14), none, some (.obj 24), none, none, none, none, none, none, none]) (Q c s :: (Ha D ++ Hb D D.d1.reverse D.d2.reverse D.d3.reverse)) := by
  have e1 := hand_ok (L := Q c s :: Ha D) (τ := T sc kk [some (.obj 0), some (.obj 7), some (.obj 14), none, none, some (.obj 2), none, none, none, none, none, none]) (n := 2) (d := D.d1) rfl rfl hD.o1
  have e2 := hand_ok (L := (Q c s :: Ha D) ++ [.lst (D.d1.map tupOf), .lst (D.d1.reverse.map tupOf), .dct (dd D.d1.reverse)]) (τ := T sc kk [some (.obj 0), some (.obj 7), some (.obj 14), none, none, some (.obj 4), none, none, none, none, none, none]) (n := 4) (d := D.d2) rfl rfl hD.o2
  have e3 := hand_ok (L := ((Q c s :: Ha D) ++ [.lst (D.d1.map tupOf), .lst (D.d1.reverse.map tupOf), .dct (dd D.d1.reverse)]) ++ [.lst (D.d2.map tupOf), .lst (D.d2.reverse.map tupOf), .dct (dd D.d2.reverse)]) (τ := T sc kk [some (.obj 0), some (.obj 7), some (.obj 14), none, none, some (.obj 6), none, none, none, none, none, none]) (n := 6) (d := D.d3) rfl rfl hD.o3
  refine x_as (x := .obj 24) (L1 := Q c s :: (Ha D ++ Hb D D.d1.reverse D.d2.reverse D.d3.reverse)) ?_ rfl
  have v := vc3 (mi := iA (eV 3)) (g := gN 7) (own := [7]) (τ := T sc kk [some (.obj 0), some (.obj 7), some (.obj 14), none, none, none, none, none, none, none, none, none]) (L := Q c s :: Ha D) (s := .at_ 7) (a0 := .obj 2) (a1 := .obj 4) (a2 := .obj 6) (x_iA (x_v rfl) rfl) rfl rfl rfl rfl rfl rfl rfl rfl e1 e2 e3
  exact x_new v
theorem b3_ok {c s : Int} {D : Dr} (hD : D.Ok) : b_3 (T sc kk [some (.obj 0), some (.obj 7), some (.obj 14), none, some (.obj 24), none, none, none, none, none, none, none]) (Q c s :: (Ha D ++ Hb D D.d1.reverse D.d2.reverse D.d3.reverse)) =
    .nx (T sc kk [some (.obj 0), some (.obj 7), some (.obj 14), none, some (.obj 24), none, some (.obj 25), none, none, none, none, none]) (Q c s :: (Ha D ++ Hb D D.d1.reverse D.d2.reverse D.d3.reverse ++ rowsL 25 D.d1.reverse D.d2.reverse D.d3.reverse)) := by
  have m := mk_ok (L := Q c s :: (Ha D ++ Hb D D.d1.reverse D.d2.reverse D.d3.reverse)) (τ := T sc kk [some (.obj 0), some (.obj 7), some (.obj 14), none, some (.obj 24), none, none, none, none, none, none, none]) (i := 17) (j := 20) (k := 23)
    (mr := aC (eOp ixF (eV 6) (eC (.int 0))) (aC (eOp ixF (eV 6) (eC (.int 1))) (aC (eOp ixF (eV 6) (eC (.int 2))) aN)))
    (x_a (x_op (x_v rfl) x_c (x_ix (p := 24) rfl rfl)) (x_a (x_op (x_v rfl) x_c (x_ix (p := 24) rfl rfl)) (x_a (x_op (x_v rfl) x_c (x_ix (p := 24) rfl rfl)) x_n))) rfl rfl rfl (rev_ok hD.o1) (rev_ok hD.o2) (rev_ok hD.o3)
  exact x_as m rfl
/-- all that is new by the loop that clears -/
def Hc (x y z : KD) : LH := [.dct (dd x), .dct (dd y), .dct (dd z), .lst [.obj 32, .obj 33, .obj 34], .lst [.obj 17, .obj 20, .obj 23, .obj 32, .obj 33, .obj 34]]
abbrev Lb (c s : Int) (D : Dr) (x y z : KD) : LH := Q c s :: (Ha D ++ Hb D x y z ++ rowsL 25 D.d1.reverse D.d2.reverse D.d3.reverse)
theorem rows_b {c s : Int} {D : Dr} {x y z : KD} : RowsAt (Lb c s D x y z) 25 (srt D.d1.reverse) (srt D.d2.reverse) (srt D.d3.reverse) := ⟨27, 29, 31, rfl, rfl, rfl, rfl⟩
theorem three_at {L : LH} {τ : Sl} {n : Nat} {x y z : KD} (hτ : τ[8]? = some (some (.obj n))) (h : RowsAt L n x y z) :
    vL (aC (eAt "answers" [] [("Rows", m_Rows_answers)] (eV 8)) (aC (eAt "fails" [] [("Rows", m_Rows_fails)] (eV 8)) (aC (eAt "stops" [] [("Rows", m_Rows_stops)] (eV 8)) aN))) τ L = .ok [.obj L.length, .obj (L.length + 1), .obj (L.length + 2)] (L ++ [.dct (dd x), .dct (dd y), .dct (dd z)]) := by
  have e1 := answers_ok h
  have e2 := fails_ok (h.app (J := [.dct (dd x)]))
  have e3 := stops_ok (h.app (J := [.dct (dd x), .dct (dd y)]))
  rw [List.append_assoc] at e2 e3
  simp only [List.length_append, List.length_cons, List.length_nil] at e2 e3
  exact x_vL (x_a (x_at hτ h e1) (x_a (x_at hτ h.app e2) (x_a (x_at hτ (h.app (J := [.dct (dd x), .dct (dd y)])) e3) x_n)))
theorem b4_ok {c s : Int} {D : Dr} {x y z : KD} (x7 : Option PV) : ∃ x7', b_4 (T sc kk [some (.obj 0), some (.obj 7), some (.obj 14), none, some (.obj 24), x7, some (.obj 25), none, none, none, none, none]) (Lb c s D x y z) =
    .nx (T sc kk [some (.obj 0), some (.obj 7), some (.obj 14), none, some (.obj 24), x7', some (.obj 25), none, none, none, none, none]) (Lb c s D [] [] [] ++ Hc [] [] []) := by
  have t := three_at (L := Lb c s D x y z) (τ := T sc kk [some (.obj 0), some (.obj 7), some (.obj 14), none, some (.obj 24), x7, some (.obj 25), none, none, none, none, none]) (n := 25) rfl rows_b
  have a : eOp addF (eV 6) (eNew (vL (aC (eAt "answers" [] [("Rows", m_Rows_answers)] (eV 8)) (aC (eAt "fails" [] [("Rows", m_Rows_fails)] (eV 8)) (aC (eAt "stops" [] [("Rows", m_Rows_stops)] (eV 8)) aN))))) (T sc kk [some (.obj 0), some (.obj 7), some (.obj 14), none, some (.obj 24), x7, some (.obj 25), none, none, none, none, none]) (Lb c s D x y z) =
    .ok (.obj 36) (Lb c s D x y z ++ Hc (srt D.d1.reverse) (srt D.d2.reverse) (srt D.d3.reverse)) := by
    refine x_op (x_v (x := .obj 24) rfl) (x_new t) ?_
    kernel_rfl
  have i := x_iA (n := 36) (ys := [.obj 17, .obj 20, .obj 23, .obj 32, .obj 33, .obj 34]) a rfl
  refine ⟨some (.obj 34), x_for i (n := 6) rfl (lp_s (s := .at_ 36) (x := .obj 17) rfl rfl (x_clear rfl rfl) (lp_s (x := .obj 20) rfl rfl (x_clear rfl rfl) (lp_s (x := .obj 23) rfl rfl (x_clear rfl rfl) (lp_s (x := .obj 32) rfl rfl (x_clear rfl rfl) (lp_s (x := .obj 33) rfl rfl (x_clear rfl rfl) (lp_s (x := .obj 34) rfl rfl (x_clear rfl rfl) (lp_e rfl)))))))⟩
end
end K16
namespace K16
open PySem PySem.Spec PyProof.Rows FL
open L2 (Key eqDD)
def Ld (c s : Int) (D : Dr) : LH := Lb c s D [] [] [] ++ Hc [] [] [] ++ [.dct (dd (srt D.d1.reverse)), .dct (dd (srt D.d2.reverse)), .dct (dd (srt D.d3.reverse)), .lst [.obj 37, .obj 38, .obj 39]]
def Le (c s : Int) (D : Dr) : LH := Ld c s D ++ [.lst ((vs D.d1).map .int), .lst ((vs D.d2).map .int), .lst ((vs D.d1 ++ vs D.d2).map .int)]
noncomputable abbrev EQ : List (Str × Fn) := [("Rows", m_Rows_eq)]
section
variable {sc : PV} {kk c s : Int} {D : Dr} {L : LH} {τ : Sl}
theorem sr_perm {d : KD} (h : Ok d) : (srt d.reverse).Perm d := (srt_perm (rev_ok h)).trans (List.reverse_perm d)
theorem sr_ok {d : KD} (h : Ok d) : Ok (srt d.reverse) := srt_ok (rev_ok h)
theorem l40 {d : KD} (h : Ok d) : d.length ≤ 40 := Nat.le_trans h.len (by decide)
theorem b5_ok (hD : D.Ok) (x7 : Option PV) : b_5 (T sc kk [some (.obj 0), some (.obj 7), some (.obj 14), none, some (.obj 24), x7, some (.obj 25), none, none, none, none, none]) (Lb c s D [] [] [] ++ Hc [] [] []) =
    .nx (T sc kk [some (.obj 0), some (.obj 7), some (.obj 14), none, some (.obj 24), x7, some (.obj 25), none, none, none, none, none]) (Ld c s D) := by
  have t := three_at (L := Lb c s D [] [] [] ++ Hc [] [] []) (τ := T sc kk [some (.obj 0), some (.obj 7), some (.obj 14), none, some (.obj 24), x7, some (.obj 25), none, none, none, none, none]) (n := 25) rfl rows_b.app
  have n := neA_ls (nf := NF) (ms := EQ) (L := Ld c s D) (n := 40) (m := 7) (a := 37) (b := 38) (c := 39) (a' := 2) (b' := 4) (c' := 6) (x := srt D.d1.reverse) (y := srt D.d2.reverse) (z := srt D.d3.reverse) (x' := D.d1) (y' := D.d2) (z' := D.d3) ⟨rfl, rfl, rfl, rfl⟩ ⟨rfl, rfl, rfl, rfl⟩ (by decide) (by decide) (by decide)
    (l40 (sr_ok hD.o1)) (l40 (sr_ok hD.o2)) (l40 (sr_ok hD.o3)) (l40 hD.o1) (l40 hD.o2) (l40 hD.o3)
  rw [eqd_perm hD.o1 (sr_perm hD.o1), eqd_perm hD.o2 (sr_perm hD.o2), eqd_perm hD.o3 (sr_perm hD.o3)] at n
  exact x_if0 (x_t (x_op (x_new t) (x_v (x := .obj 7) rfl) n))
theorem x_vs {me : ME} {L1 : LH} {n : Nat} {d : KD} (h : me τ L = .ok (.obj n) L1) (hn : L1[n]? = some (.dct (dd d))) : eVs me τ L = .ok (.obj L1.length) (L1 ++ [.lst ((vs d).map .int)]) := by
  unfold eVs
  rw [h, bind_ok]
  simp only [hn, vals_dd]
theorem x_add {n m : Nat} {xs ys : List PV} (h1 : L[n]? = some (.lst xs)) (h2 : L[m]? = some (.lst ys)) (hz : xs.length + ys.length ≤ 100) : addF (.obj n) (.obj m) L = .ok (.obj L.length) (L ++ [.lst (xs ++ ys)]) := by
  unfold addF
  simp only [h1, h2]
  exact if_pos (Nat.le_trans hz (by rw [PySem.sizeLine_eq]; decide))
theorem b6_ok (hD : D.Ok) (x7 : Option PV) : b_6 (T sc kk [some (.obj 0), some (.obj 7), some (.obj 14), none, some (.obj 24), x7, some (.obj 25), none, none, none, none, none]) (Ld c s D) =
    .nx (T sc kk [some (.obj 0), some (.obj 7), some (.obj 14), none, some (.obj 24), x7, some (.obj 25), some (.obj 43), none, none, none, none]) (Le c s D) := by
  have e1 := x_vs (L := Ld c s D) (L1 := Ld c s D) (τ := T sc kk [some (.obj 0), some (.obj 7), some (.obj 14), none, some (.obj 24), x7, some (.obj 25), none, none, none, none, none]) (n := 2) (d := D.d1) (x_op (x_v (x := .obj 7) (i := 3) rfl) (x_c (x := .int 0)) (x_ix (p := 7) rfl rfl)) rfl
  have e2 := x_vs (L := Ld c s D ++ [.lst ((vs D.d1).map .int)]) (L1 := Ld c s D ++ [.lst ((vs D.d1).map .int)]) (τ := T sc kk [some (.obj 0), some (.obj 7), some (.obj 14), none, some (.obj 24), x7, some (.obj 25), none, none, none, none, none]) (n := 4) (d := D.d2) (x_op (x_v (x := .obj 7) (i := 3) rfl) (x_c (x := .int 1)) (x_ix (p := 7) rfl rfl)) rfl
  have e3 := x_add (L := Ld c s D ++ [.lst ((vs D.d1).map .int)] ++ [.lst ((vs D.d2).map .int)]) (n := 41) (m := 42) (xs := (vs D.d1).map .int) (ys := (vs D.d2).map .int) rfl rfl (by
    have := hD.o1.len; have := hD.o2.len
    rw [List.length_map, List.length_map, len_vs, len_vs]; omega)
  rw [← List.map_append] at e3
  exact x_as (x_op e1 e2 e3) rfl
/-- what the rest looks at -/
structure Fx (L : LH) (D : Dr) : Prop where
  rows : RowsAt L 25 (srt D.d1.reverse) (srt D.d2.reverse) (srt D.d3.reverse)
  some : LsAt L 7 2 4 6 D.d1 D.d2 D.d3
  oth : LsAt L 14 9 11 13 D.d4 D.d5 D.d6
  kn : L[43]? = Option.some (.lst ((vs D.d1 ++ vs D.d2).map .int))
  lt : 43 < L.length
theorem Fx.app {J : LH} (h : Fx L D) : Fx (L ++ J) D := ⟨h.rows.app, h.some.app, h.oth.app, at_app h.kn, by rw [List.length_append]; have := h.lt; omega⟩
theorem fx_e : Fx (Le c s D) D := ⟨⟨27, 29, 31, rfl, rfl, rfl, rfl⟩, ⟨rfl, rfl, rfl, rfl⟩, ⟨rfl, rfl, rfl, rfl⟩, rfl, by show 43 < 44; decide⟩
theorem ne_nil {n m : Nat} {l : List Int} (h1 : L[n]? = some (.lst (l.map .int))) (h2 : L[m]? = some (.lst [])) (hz : l.length ≤ 40) : neAF NF EQ (.obj n) (.obj m) L = .ok (.bl (!l.isEmpty)) L := by
  have e : eqFind EQ (.obj n) L = none := by simp [eqFind, insOf, sliOf, h1]
  unfold neAF
  rw [e, eqD_lists h1 h2 (okVs_ints l) (Nat.le_trans (rkVs_ints l) (by omega)) rfl (by decide)]
  cases l <;> rfl
theorem toIs_map' (l : List Int) : toIs (l.map .int) = some l := by
  induction l with
  | nil => rfl
  | cons x l ih => simp [toIs, ih]
theorem gv_eq {a b : List Int} (p : a.Perm b) : gv a = gv b := by
  unfold gv
  by_cases h : a = []
  · subst h; rw [List.nil_perm.mp p]
  · have h2 : b ≠ [] := fun z => h (by subst z; exact List.perm_nil.mp p)
    rw [if_neg h, if_neg h2, maxN_perm p h]
theorem gv_ok (l : List Int) : okV (gv l) = true ∧ rkV (gv l) ≤ 60 := by
  unfold gv
  split <;> exact ⟨rfl, show 1 ≤ 60 from by decide⟩
theorem own_no {x y : PV} (h : eqFind EQ x L = none) : ownEqF true NF EQ x y L = neF x y L := by
  unfold ownEqF
  rw [h]
  rfl
theorem eqFind_gv (l : List Int) : eqFind EQ (gv l) L = none := by
  unfold gv
  split <;> rfl
theorem b7_ok (hD : D.Ok) (h : Fx L D) (h8 : τ[8]? = some (some (.obj 25))) (h9 : τ[9]? = some (some (.obj 43))) : b_7 τ L = .nx τ L := by
  have g := rgreatest_ok h.rows (l40 (sr_ok hD.o1)) (l40 (sr_ok hD.o2))
  have hl : (vs D.d1 ++ vs D.d2).length ≤ 40 := by
    have := hD.o1.len; have := hD.o2.len
    rw [List.length_append, len_vs, len_vs]; omega
  have e1 : eMe "greatest" [("Rows", m_Rows_greatest)] (eV 8) aN τ L = .ok (gv (vs (srt D.d1.reverse) ++ vs (srt D.d2.reverse))) L := by
    obtain ⟨i, j, k, h0, _⟩ := h.rows.ex
    have f : mFindS "greatest" [("Rows", m_Rows_greatest)] (.obj 25) L = some m_Rows_greatest := by
      simp [mFindS, mFind, insOf, sliOf, h0]
    unfold eMe
    rw [x_v h8, bind_ok]
    simp only [f, x_n, bind_ok, g]
  have n := ne_nil (L := L ++ [.lst []]) (at_app h.kn) at_new0 hl
  have e2 : eIf (tOp2 (neAF NF EQ) (eV 9) (eNew (vL aN))) (eQ maxF (qL (eV 9))) (eC .non) τ L = .ok (gv (vs D.d1 ++ vs D.d2)) (L ++ [.lst []]) := by
    unfold eIf
    rw [show tOp2 (neAF NF EQ) (eV 9) (eNew (vL aN)) τ L = .ok (!(vs D.d1 ++ vs D.d2).isEmpty) (L ++ [.lst []]) from x_t (x_op (x_v h9) (x_new (x_vL x_n (by simp))) n), bind_ok]
    by_cases hz : vs D.d1 ++ vs D.d2 = []
    · rw [hz]; rfl
    · have hz2 : (!(vs D.d1 ++ vs D.d2).isEmpty) = true := by
        cases q : vs D.d1 ++ vs D.d2 with
        | nil => exact absurd q hz
        | cons => rfl
      rw [hz2, if_pos rfl]
      have kn := at_app (J := [LO.lst []]) h.kn
      unfold eQ qL
      rw [x_v h9, bind_ok]
      unfold itemsL
      simp only [kn, bind_ok, maxF, toIs_map']
      rw [if_pos (List.length_pos_iff.mpr hz)]
      unfold gv
      rw [if_neg hz]
  have p : (vs (srt D.d1.reverse) ++ vs (srt D.d2.reverse)).Perm (vs D.d1 ++ vs D.d2) := (vs_perm (sr_perm hD.o1)).append (vs_perm (sr_perm hD.o2))
  rw [gv_eq p] at e1
  have e3 : ownEqF true NF EQ (gv (vs D.d1 ++ vs D.d2)) (gv (vs D.d1 ++ vs D.d2)) (L ++ [.lst []]) = .ok (.bl false) (L ++ [.lst []]) := by
    rw [own_no (eqFind_gv _)]
    exact neF_refl (gv_ok _).1 (gv_ok _).2
  exact x_gc0 (J := [.lst []]) (x_t (x_op e1 e2 e3))
theorem eqFind_rows {n : Nat} {x y z : KD} (h : RowsAt L n x y z) : eqFind EQ (.obj n) L = some m_Rows_eq := by
  obtain ⟨i, j, k, h0, _⟩ := h.ex
  simp [eqFind, insOf, sliOf, h0]
theorem tyI_rows {n : Nat} {x y z : KD} (h : RowsAt L n x y z) : tyI (.obj n) L = some (.c "Rows") := by
  obtain ⟨i, j, k, h0, _⟩ := h.ex
  simp [tyI, h0]
/-- == and != of two Rows -/
theorem own_rows {n m : Nat} {x y z x' y' z' : KD} (neg : Bool) (h : RowsAt L n x y z) (h' : RowsAt L m x' y' z') (ha : x.length ≤ 40) (hb : y.length ≤ 40) (hc : z.length ≤ 40) (ha' : x'.length ≤ 40) (hb' : y'.length ≤ 40) (hc' : z'.length ≤ 40) :
    ownEqF neg NF EQ (.obj n) (.obj m) L = .ok (.bl (xor neg (eqd x x' && eqd y y' && eqd z z'))) L := by
  have nf : NF.contains (.c "Rows") = true := by decide +kernel
  unfold ownEqF
  rw [eqFind_rows h]
  simp only [tyI_rows h', nf, if_true, roweq_ok h h' ha hb hc ha' hb' hc', R.noex, bind_ok]
theorem eqA_rows {n m : Nat} {x y z x' y' z' : KD} (h : RowsAt L n x y z) (h' : RowsAt L m x' y' z') (ha : x.length ≤ 40) (hb : y.length ≤ 40) (hc : z.length ≤ 40) (ha' : x'.length ≤ 40) (hb' : y'.length ≤ 40) (hc' : z'.length ≤ 40) :
    eqAF NF EQ (.obj n) (.obj m) L = .ok (.bl (eqd x x' && eqd y y' && eqd z z')) L := by
  have e := own_rows false h h' ha hb hc ha' hb' hc'
  unfold eqAF
  rw [eqFind_rows h]
  simpa using e
theorem ix3 {l a b c : Nat} {x y z : KD} {i : Nat} (hl : τ[i]? = some (some (.obj l))) (h : LsAt L l a b c x y z) :
    (aC (eOp ixF (eV i) (eC (.int 0))) (aC (eOp ixF (eV i) (eC (.int 1))) (aC (eOp ixF (eV i) (eC (.int 2))) aN))) τ L = .ok [.obj a, .obj b, .obj c] L :=
  x_a (x_op (x_v hl) x_c (x_ix h.l rfl)) (x_a (x_op (x_v hl) x_c (x_ix h.l rfl)) (x_a (x_op (x_v hl) x_c (x_ix h.l rfl)) x_n))
theorem b8_ok (hD : D.Ok) (h : Fx L D) (h3 : τ[3]? = some (some (.obj 7))) (h4 : τ[4]? = some (some (.obj 14))) (h8 : τ[8]? = some (some (.obj 25))) : b_8 τ L = .nx τ L := by
  have m := mk_ok (ix3 h4 h.oth) h.oth.a h.oth.b h.oth.c hD.o4 hD.o5 hD.o6
  have rn : RowsAt (L ++ rowsL L.length D.d4 D.d5 D.d6) L.length (srt D.d4) (srt D.d5) (srt D.d6) := by
    have := rows_new (L := L) (J := []) (a := D.d4) (b := D.d5) (c := D.d6)
    rwa [List.append_nil] at this
  have e1 := eqA_rows h.rows.app rn (l40 (sr_ok hD.o1)) (l40 (sr_ok hD.o2)) (l40 (sr_ok hD.o3)) (l40 (srt_ok hD.o4)) (l40 (srt_ok hD.o5)) (l40 (srt_ok hD.o6))
  have e2 := eqA_ls (nf := NF) (ms := EQ) (h.some.app (J := rowsL L.length D.d4 D.d5 D.d6)) h.oth.app (by decide) (by decide) (by decide) (l40 hD.o1) (l40 hD.o2) (l40 hD.o3) (l40 hD.o4) (l40 hD.o5) (l40 hD.o6)
  rw [eqd_congr (srt_ok hD.o4) (sr_perm hD.o1) (srt_perm hD.o4), eqd_congr (srt_ok hD.o5) (sr_perm hD.o2) (srt_perm hD.o5), eqd_congr (srt_ok hD.o6) (sr_perm hD.o3) (srt_perm hD.o6)] at e1
  have e3 : ∀ b : Bool, ownEqF true NF EQ (.bl b) (.bl b) (L ++ rowsL L.length D.d4 D.d5 D.d6) = .ok (.bl false) (L ++ rowsL L.length D.d4 D.d5 D.d6) := fun b => by
    rw [own_no rfl]
    exact neF_refl rfl (by show 1 ≤ 60; decide)
  exact x_gc0 (x_t (x_op (x_op (x_v h8) m e1) (x_op (x_v h3) (x_v h4) e2) (e3 _)))
theorem b9_ok (hD : D.Ok) (h : Fx L D) (h3 : τ[3]? = some (some (.obj 7))) (h8 : τ[8]? = some (some (.obj 25))) : b_9 τ L = .nx τ L := by
  have m := mk_ok (ix3 h3 h.some) h.some.a h.some.b h.some.c hD.o1 hD.o2 hD.o3
  have rn : RowsAt (L ++ rowsL L.length D.d1 D.d2 D.d3) L.length (srt D.d1) (srt D.d2) (srt D.d3) := by
    have := rows_new (L := L) (J := []) (a := D.d1) (b := D.d2) (c := D.d3)
    rwa [List.append_nil] at this
  have e1 := own_rows true h.rows.app rn (l40 (sr_ok hD.o1)) (l40 (sr_ok hD.o2)) (l40 (sr_ok hD.o3)) (l40 (srt_ok hD.o1)) (l40 (srt_ok hD.o2)) (l40 (srt_ok hD.o3))
  rw [eqd_perm (srt_ok hD.o1) ((sr_perm hD.o1).trans (srt_perm hD.o1).symm), eqd_perm (srt_ok hD.o2) ((sr_perm hD.o2).trans (srt_perm hD.o2).symm), eqd_perm (srt_ok hD.o3) ((sr_perm hD.o3).trans (srt_perm hD.o3).symm)] at e1
  exact x_gc0 (x_t (x_op (x_v h8) m e1))
end
end K16
namespace K16
open PySem PySem.Spec PyProof.Rows FL
open L2 (Key eqDD)
section
variable {sc : PV} {kk c s : Int} {D : Dr} {L : LH} {τ : Sl}
noncomputable def b10b : MS := (sSeq (sAs (eNew (vC (iA (eV 3)) (gN 7) tY (eF dictF (aC (eV 7) aN)) [7])) (gN 11))
    (sSeq (sAs (eC (.int 1)) (gSb (eOp ixF (eV 11) (eV 10)) (eC (.int 40))))
    (sSeq (sIf (gcT2 (tOp2 (eqAF NF EQ) (eV 8) (eMk "Rows" 0 3 m_Rows_init gP_Rows_0_stops_fails_answers aN (aC (eOp ixF (eV 11) (eC (.int 2))) (aC (eOp ixF (eV 11) (eC (.int 1))) (aC (eOp ixF (eV 11) (eC (.int 0))) aN)))))) (sRt (eC (.bl false))) sN)
    (sIf (tNot (tOp2 (neAF NF EQ) (eV 8) (eV 3))) (sRt (eC (.bl false))) sN))))
theorem b10_eq : b_10 = sFor (iR1 (aC (eC (.int 3)) aN)) (gN 10) b10b := rfl
/-- the slots from the sixth statement on -/
abbrev T2 (sc : PV) (kk : Int) (x7 x10 x11 x12 x13 : Option PV) : Sl := T sc kk [some (.obj 0), some (.obj 7), some (.obj 14), none, some (.obj 24), x7, some (.obj 25), some (.obj 43), x10, x11, x12, x13]
theorem bent_ok (h : Fx L D) (x7 x10 x11 x12 x13 : Option PV) : sAs (eNew (vC (iA (eV 3)) (gN 7) tY (eF dictF (aC (eV 7) aN)) [7])) (gN 11) (T2 sc kk x7 x10 x11 x12 x13) L =
    .nx (T2 sc kk x7 x10 (some (.obj (L.length + 3))) x12 x13) (L ++ [.dct (dd D.d1), .dct (dd D.d2), .dct (dd D.d3), .lst [.obj L.length, .obj (L.length + 1), .obj (L.length + 2)]]) := by
  have sl := h.some.l
  have e0 := dict_copy h.some.a
  have e1 := dict_copy (at_app (J := [LO.dct (dd D.d1)]) h.some.b)
  have e2 := dict_copy (at_app (J := [LO.dct (dd D.d1), LO.dct (dd D.d2)]) h.some.c)
  simp only [List.append_assoc, List.length_append, List.length_cons, List.length_nil, List.cons_append, List.nil_append] at e1 e2
  have g : ∀ (J : LH) (i : Nat), (Src.at_ 7).get (L ++ J) i = some ([PV.obj 2, .obj 4, .obj 6][i]?) := fun J i => by
    have := at_app (J := J) sl
    simp [Src.get, this]
  have v := vc3 (mi := iA (eV 3)) (g := gN 7) (me := eF dictF (aC (eV 7) aN)) (own := [7]) (τ := T2 sc kk x7 x10 x11 x12 x13) (L := L) (L0 := L) (s := .at_ 7) (a0 := .obj 2) (a1 := .obj 4) (a2 := .obj 6)
    (τ0 := T2 sc kk (some (.obj 2)) x10 x11 x12 x13) (τ1 := T2 sc kk (some (.obj 4)) x10 x11 x12 x13) (τ2 := T2 sc kk (some (.obj 6)) x10 x11 x12 x13)
    (x_iA (x_v rfl) sl) (by simp [Src.len, sl]) (by simpa using g [] 0) (g [.dct (dd D.d1)] 1) (g [.dct (dd D.d1), .dct (dd D.d2)] 2) (g [.dct (dd D.d1), .dct (dd D.d2), .dct (dd D.d3)] 3) rfl rfl rfl
    (x_f (x_a (x_v rfl) x_n) e0) (x_f (x_a (x_v rfl) x_n) e1) (x_f (x_a (x_v rfl) x_n) e2)
  have w := x_new v
  simp only [List.append_assoc, List.length_append, List.length_cons, List.length_nil, List.cons_append, List.nil_append] at w
  exact x_as w rfl
/-- d[40] = 1 -/
theorem set40 {n : Nat} {d : KD} (hn : L[n]? = some (.dct (dd d))) (hl : d.length ≤ 8) : setL (.obj n) (.int 40) (.int 1) L = some (L.set n (.dct (dd (put d 40 1)))) := by
  unfold setL
  simp only [hn, toK]
  rw [if_pos (by unfold dd; rw [List.length_map]; exact Nat.lt_of_le_of_lt hl (by decide)), putD_dd]
theorem set_ok {p n : Nat} {xs : List PV} {i : Int} {d : KD} (h11 : τ[11]? = some (some (.obj p))) (h10 : τ[10]? = some (some (.int i))) (hp : L[p]? = some (.lst xs)) (hi : L2.atI xs i = some (.obj n)) (hn : L[n]? = some (.dct (dd d))) (hl : d.length ≤ 8) :
    sAs (eC (.int 1)) (gSb (eOp ixF (eV 11) (eV 10)) (eC (.int 40))) τ L = .nx τ (L.set n (.dct (dd (put d 40 1)))) := by
  refine x_as (x := .int 1) x_c ?_
  unfold gSb
  rw [show eOp ixF (eV 11) (eV 10) τ L = .ok (.obj n) L from x_op (x_v h11) (x_v h10) (x_ix hp hi), bind0_ok, x_c, bind0_ok, set40 hn hl]
theorem ix3r {l a b c : Nat} {x y z : KD} {i : Nat} (hl : τ[i]? = some (some (.obj l))) (h : LsAt L l a b c x y z) :
    (aC (eOp ixF (eV i) (eC (.int 2))) (aC (eOp ixF (eV i) (eC (.int 1))) (aC (eOp ixF (eV i) (eC (.int 0))) aN))) τ L = .ok [.obj c, .obj b, .obj a] L :=
  x_a (x_op (x_v hl) x_c (x_ix h.l rfl)) (x_a (x_op (x_v hl) x_c (x_ix h.l rfl)) (x_a (x_op (x_v hl) x_c (x_ix h.l rfl)) x_n))
theorem tests10 {l a b c' : Nat} {x y z : KD} (hD : D.Ok) (h : Fx L D) (h3 : τ[3]? = some (some (.obj 7))) (h8 : τ[8]? = some (some (.obj 25))) (h11 : τ[11]? = some (some (.obj l))) (hl : LsAt L l a b c' x y z) (hx : Ok x) (hy : Ok y) (hz : Ok z)
    (ne : (eqd (srt D.d1.reverse) (srt x) && eqd (srt D.d2.reverse) (srt y) && eqd (srt D.d3.reverse) (srt z)) = false) :
    sSeq (sIf (gcT2 (tOp2 (eqAF NF EQ) (eV 8) (eMk "Rows" 0 3 m_Rows_init gP_Rows_0_stops_fails_answers aN (aC (eOp ixF (eV 11) (eC (.int 2))) (aC (eOp ixF (eV 11) (eC (.int 1))) (aC (eOp ixF (eV 11) (eC (.int 0))) aN)))))) (sRt (eC (.bl false))) sN)
    (sIf (tNot (tOp2 (neAF NF EQ) (eV 8) (eV 3))) (sRt (eC (.bl false))) sN) τ L = .nx τ L := by
  have m := mkk_ok (ix3r h11 hl) hl.a hl.b hl.c hx hy hz
  have rn : RowsAt (L ++ rowsL L.length x y z) L.length (srt x) (srt y) (srt z) := by
    have := rows_new (L := L) (J := []) (a := x) (b := y) (c := z)
    rwa [List.append_nil] at this
  have e1 := eqA_rows h.rows.app rn (l40 (sr_ok hD.o1)) (l40 (sr_ok hD.o2)) (l40 (sr_ok hD.o3)) (l40 (srt_ok hx)) (l40 (srt_ok hy)) (l40 (srt_ok hz))
  rw [ne] at e1
  have nf : NF.contains (.b "list") = true := by decide +kernel
  have sl := h.some.l
  have e2 : neAF NF EQ (.obj 25) (.obj 7) L = .ok (.bl true) L := by
    unfold neAF
    rw [eqFind_rows h.rows]
    unfold ownEqF
    rw [eqFind_rows h.rows]
    have t : tyI (.obj 7) L = some (.b "list") := by simp [tyI, sl]
    simp only [t, nf, if_true, roweq_no sl, R.noex, bind_ok]
    rfl
  refine x_seq (x_gc0 (x_t (x_op (x_v h8) m e1))) (x_if0 ?_)
  have t : tOp2 (neAF NF EQ) (eV 8) (eV 3) τ L = .ok true L := x_t (x_op (x_v h8) (x_v h3) e2)
  unfold tNot
  rw [t]
  rfl
theorem put_ne {d : KD} (h : Ok d) (n : (∀ k ∈ ks d, k < 40) ∧ d.length ≤ 8) : eqd (srt d.reverse) (srt (put d 40 1)) = false := by
  refine eqd_len ?_
  rw [(sr_perm h).length_eq, (srt_perm (put_ok h n.2 1)).length_eq, put_new n.1]
  omega
theorem turn10 (hD : D.Ok) (h : Fx L D) (i : Nat) (hi : i < 3) (x7 x11 x12 x13 : Option PV) : ∃ x11' J, b10b (T2 sc kk x7 (some (.int (0 + (i : Nat)))) x11 x12 x13) L = .nx (T2 sc kk x7 (some (.int (0 + (i : Nat)))) x11' x12 x13) (L ++ J) := by
  have b := bent_ok (sc := sc) (kk := kk) h x7 (some (.int (0 + (i : Nat)))) x11 x12 x13
  have n0 : (L ++ [LO.dct (dd D.d1), .dct (dd D.d2), .dct (dd D.d3), .lst [.obj L.length, .obj (L.length + 1), .obj (L.length + 2)]])[L.length]? = some (.dct (dd D.d1)) := at_new0
  have n1 : (L ++ [LO.dct (dd D.d1), .dct (dd D.d2), .dct (dd D.d3), .lst [.obj L.length, .obj (L.length + 1), .obj (L.length + 2)]])[L.length + 1]? = some (.dct (dd D.d2)) := at_new
  have n2 : (L ++ [LO.dct (dd D.d1), .dct (dd D.d2), .dct (dd D.d3), .lst [.obj L.length, .obj (L.length + 1), .obj (L.length + 2)]])[L.length + 2]? = some (.dct (dd D.d3)) := at_new
  have n3 : (L ++ [LO.dct (dd D.d1), .dct (dd D.d2), .dct (dd D.d3), .lst [.obj L.length, .obj (L.length + 1), .obj (L.length + 2)]])[L.length + 3]? = some (.lst [.obj L.length, .obj (L.length + 1), .obj (L.length + 2)]) := at_new
  have c : i = 0 ∨ i = 1 ∨ i = 2 := by omega
  rcases c with rfl | rfl | rfl
  · have st := set_ok (τ := T2 sc kk x7 (some (.int (0 + (0 : Nat)))) (some (.obj (L.length + 3))) x12 x13) (p := L.length + 3) (i := 0 + (0 : Nat)) rfl rfl n3 rfl n0 hD.n1.2
    rw [set_new0] at st
    refine ⟨_, _, x_seq b (x_seq st (tests10 (x := put D.d1 40 1) (y := D.d2) (z := D.d3) (a := L.length) (b := L.length + 1) (c' := L.length + 2) hD h.app rfl rfl rfl ⟨at_new, at_new0, at_new, at_new⟩ (put_ok hD.o1 hD.n1.2 1) hD.o2 hD.o3 ?_))⟩
    rw [put_ne hD.o1 hD.n1]; rfl
  · have st := set_ok (τ := T2 sc kk x7 (some (.int (0 + (1 : Nat)))) (some (.obj (L.length + 3))) x12 x13) (p := L.length + 3) (i := 0 + (1 : Nat)) rfl rfl n3 rfl n1 hD.n2.2
    rw [set_new] at st
    refine ⟨_, _, x_seq b (x_seq st (tests10 (x := D.d1) (y := put D.d2 40 1) (z := D.d3) (a := L.length) (b := L.length + 1) (c' := L.length + 2) hD h.app rfl rfl rfl ⟨at_new, at_new0, at_new, at_new⟩ hD.o1 (put_ok hD.o2 hD.n2.2 1) hD.o3 ?_))⟩
    rw [put_ne hD.o2 hD.n2]; simp
  · have st := set_ok (τ := T2 sc kk x7 (some (.int (0 + (2 : Nat)))) (some (.obj (L.length + 3))) x12 x13) (p := L.length + 3) (i := 0 + (2 : Nat)) rfl rfl n3 rfl n2 hD.n3.2
    rw [set_new] at st
    refine ⟨_, _, x_seq b (x_seq st (tests10 (x := D.d1) (y := D.d2) (z := put D.d3 40 1) (a := L.length) (b := L.length + 1) (c' := L.length + 2) hD h.app rfl rfl rfl ⟨at_new, at_new0, at_new, at_new⟩ hD.o1 hD.o2 (put_ok hD.o3 hD.n3.2 1) ?_))⟩
    rw [put_ne hD.o3 hD.n3]; simp
theorem b10_ok (hD : D.Ok) (h : Fx L D) (x7 : Option PV) : ∃ x10 x11 J, b_10 (T2 sc kk x7 none none none none) L = .nx (T2 sc kk x7 x10 x11 none none) (L ++ J) := by
  have ir : iR1 (aC (eC (.int 3)) aN) (T2 sc kk x7 none none none none) L = .ok (.vals ((List.range 3).map fun k => PV.int (0 + (k : Nat)))) L := by
    unfold iR1
    rw [x_a x_c x_n, bind_ok]
    exact if_pos ⟨by decide, by decide⟩
  obtain ⟨τ', L', e, x10, x11, J, rfl, rfl⟩ := for_inv (xs := (List.range 3).map fun k => PV.int (0 + (k : Nat))) (mi := iR1 (aC (eC (.int 3)) aN)) (g := gN 10) (b := b10b) (τ := T2 sc kk x7 none none none none) (L := L) (L1 := L)
    (I := fun _ τ L' => ∃ x10 x11 J, τ = T2 sc kk x7 x10 x11 none none ∧ L' = L ++ J) ir ⟨none, none, [], rfl, by simp⟩ (by
      rintro i x τ L' hx ⟨x10, x11, J, rfl, rfl⟩
      have hi : i < 3 := by simpa using (List.getElem?_eq_some_iff.mp hx).1
      have ex : x = .int (0 + (i : Nat)) := by
        rw [List.getElem?_map, List.getElem?_range hi] at hx
        simpa using hx.symm
      subst ex
      obtain ⟨x11', J', e⟩ := turn10 (sc := sc) (kk := kk) hD (h.app (J := J)) i hi x7 x11 none none
      exact ⟨_, _, _, rfl, e, _, x11', J ++ J', rfl, by rw [List.append_assoc]⟩)
  exact ⟨x10, x11, J, by rw [b10_eq]; exact e⟩
end
end K16
namespace K16
open PySem PySem.Spec PyProof.Rows FL
open L2 (Key eqDD)
def things : LH := [.lst [], .lst [.tup [.int 1, .int 1]], .dct [(.inl (-1), .int 2)], .odd (.bl true) (.int 2), .dct [(.inr "1", .int 2)], .odd .non (.int 1), .dct [(.inl 1, .non)], .dct [(.inl 1, .bl true)], .dct [(.inl 2, .str "5")], .odd (.tup [.int 1]) (.int 1)]
def tl (n : Nat) : List PV := [.non, .int 5, .obj n, .obj (n + 1), .obj (n + 2), .obj (n + 3), .obj (n + 4), .obj (n + 5), .obj (n + 6), .obj (n + 7), .obj (n + 8), .obj (n + 9)]
def HasT (L : LH) (n : Nat) : Prop := ∀ i o, things[i]? = some o → L[n + i]? = some o
section
variable {sc : PV} {kk c s : Int} {D : Dr} {L R : LH} {τ : Sl} {n : Nat}
theorem HasT.app {J : LH} (h : HasT L n) : HasT (L ++ J) n := fun i o e => at_app (h i o e)
def IsBad (t : PV) (r : Str) (L : LH) : Prop := m_is_dict_of_numbers [t] L = .ok (.bl false) L ∧ reprAF [t] L = .ok (.str r) L
theorem bad_non : IsBad .non (PyData.none).shown L := ⟨isdict_no (by kernel_rfl), by kernel_rfl⟩
theorem bad_int : IsBad (.int 5) (PyData.int 5).shown L := ⟨isdict_no (by kernel_rfl), by kernel_rfl⟩
theorem bad_lst {xs : List PV} {ds : List PyData} (h : L[n]? = some (.lst xs)) (hd : datL L 59 xs = some ds) (hs : (PyData.list ds).showable = true ∧ (PyData.list ds).hasDict = false ∧ (PyData.list ds).depth ≤ 60 ∧ (PyData.list ds).shown.length ≤ sizeLine) : IsBad (.obj n) (PyData.list ds).shown L := by
  have k1 : kitL TAB (.b "list") (.b "dict") = some false := by decide +kernel
  refine ⟨isdict_no ?_, ?_⟩
  · simp [isiS, sliOf, isOdd, h, isiF, tpOf, clsOf, k1]
  · have e : dat L 60 (.obj n) = some (.list ds) := by
      show (match L[n]? with | some (.lst xs) => (datL L 59 xs).map PyData.list | _ => none) = _
      rw [h]
      show (datL L 59 xs).map PyData.list = _
      rw [hd]; rfl
    unfold reprAF
    simp only [h]
    unfold reprF
    simp only [e]
    rw [if_pos hs]
theorem bad_dct {kvs : List (Key × PV)} {r : Str} (h : L[n]? = some (.dct kvs)) (hv : ∀ p ∈ kvs, Fl p.2) (hz : kvs.length ≤ 100) (hb : (kvs.all fun p => isC (kP p.1) && isI p.2) = false) (hr : reprDF (kvs.map fun p => (kP p.1, p.2)) L = .ok (.str r) L) : IsBad (.obj n) r L := by
  refine ⟨by rw [isdict_dct h hv hz, hb], ?_⟩
  unfold reprAF
  simp only [h]
  exact hr
theorem bad_odd {k v : PV} {r : Str} (h : L[n]? = some (.odd k v)) (hk : Fl k) (hv : Fl v) (hn : isC k = false) (hr : reprDF [(k, v)] L = .ok (.str r) L) : IsBad (.obj n) r L := by
  refine ⟨isdict_odd h hk hv hn, ?_⟩
  unfold reprAF
  simp only [h]
  exact hr
theorem fl1 {k : Key} {v : PV} (h : Fl v) : ∀ p ∈ [(k, v)], Fl p.2 := fun p hp => by
  obtain rfl : p = (k, v) := by simpa using hp
  exact h
theorem bad_all {t : PV} (ht : t ∈ tl n) : ∃ r, okV (.str r) = true ∧ ∀ L, HasT L n → IsBad t r L := by
  simp only [tl, List.mem_cons, List.not_mem_nil, or_false] at ht
  rcases ht with rfl | rfl | rfl | rfl | rfl | rfl | rfl | rfl | rfl | rfl | rfl | rfl
  · exact ⟨_, by kernel_rfl, fun L h => bad_non⟩
  · exact ⟨_, by kernel_rfl, fun L h => bad_int⟩
  · exact ⟨_, by kernel_rfl, fun L h => bad_lst (ds := []) (h 0 _ rfl) rfl (by decide +kernel)⟩
  · exact ⟨_, by kernel_rfl, fun L h => bad_lst (ds := [.tuple [.int 1, .int 1]]) (h 1 _ rfl) rfl (by decide +kernel)⟩
  · exact ⟨(PyData.dict [(.int (-1), .int 2)]).shown, by kernel_rfl, fun L h => bad_dct (h 2 _ rfl) (fl1 (.int _)) (by decide) rfl (by kernel_rfl)⟩
  · exact ⟨(PyData.dict [(.bool true, .int 2)]).shown, by kernel_rfl, fun L h => bad_odd (h 3 _ rfl) (.bl _) (.int _) rfl (by kernel_rfl)⟩
  · exact ⟨(PyData.dict [(.str "1", .int 2)]).shown, by kernel_rfl, fun L h => bad_dct (h 4 _ rfl) (fl1 (.int _)) (by decide) rfl (by kernel_rfl)⟩
  · exact ⟨(PyData.dict [(.none, .int 1)]).shown, by kernel_rfl, fun L h => bad_odd (h 5 _ rfl) .non (.int _) rfl (by kernel_rfl)⟩
  · exact ⟨(PyData.dict [(.int 1, .none)]).shown, by kernel_rfl, fun L h => bad_dct (h 6 _ rfl) (fl1 .non) (by decide) rfl (by kernel_rfl)⟩
  · exact ⟨(PyData.dict [(.int 1, .bool true)]).shown, by kernel_rfl, fun L h => bad_dct (h 7 _ rfl) (fl1 (.bl _)) (by decide) rfl (by kernel_rfl)⟩
  · exact ⟨(PyData.dict [(.int 2, .str "5")]).shown, by kernel_rfl, fun L h => bad_dct (h 8 _ rfl) (fl1 (.str _)) (by decide) rfl (by kernel_rfl)⟩
  · exact ⟨(PyData.dict [(.tuple [.int 1], .int 1)]).shown, by kernel_rfl, fun L h => bad_odd (h 9 _ rfl) (.tup _) (.int _) rfl (by kernel_rfl)⟩
theorem bad_at {t : PV} {r : Str} (h : HasT L n) (hb : ∀ L, HasT L n → IsBad t r L) : Bad L t r := ⟨fun J => (hb _ h.app).1, fun J => (hb _ h.app).2⟩
theorem b11_ok (x7 x10 x11 : Option PV) : b_11 (T2 sc kk x7 x10 x11 none none) L = .nx (T2 sc kk x7 x10 x11 (some (.obj (L.length + 10))) none) (L ++ (things ++ [.lst (tl L.length)])) := by
  simp [b_11, sAs, eNew, vL, aC, aN, eC, eT, eD1, eUn, negF, eOdd, eDs, eOddT, oddP, oddT, toK, gN, PySem.sizeLine_eq, things, tl, mergeD, putD, getK]
  kernel_rfl
end
end K16
namespace K16
open PySem PySem.Spec PyProof.Rows FL
open L2 (Key eqDD)
section
variable {sc : PV} {kk c s c' s' : Int} {D : Dr} {L R : LH} {τ : Sl} {n : Nat}
theorem at_q {k : Nat} {o : LO} (h : (Q c s :: R)[k]? = some o) (hk : k ≠ 0) : (Q c' s' :: R)[k]? = some o := by
  cases k with
  | zero => exact absurd rfl hk
  | succ k => exact h
theorem at_qd {k : Nat} {d : List (Key × PV)} (h : (Q c s :: R)[k]? = some (.dct d)) : (Q c' s' :: R)[k]? = some (.dct d) := by
  cases k with
  | zero => cases h
  | succ k => exact h
theorem LsAt.q {n a b c2 : Nat} {x y z : KD} (h : LsAt (Q c s :: R) n a b c2 x y z) (hn : n ≠ 0) : LsAt (Q c' s' :: R) n a b c2 x y z := ⟨at_q h.l hn, at_qd h.a, at_qd h.b, at_qd h.c⟩
theorem HasT.q (h : HasT (Q c s :: R) n) (hn : n ≠ 0) : HasT (Q c' s' :: R) n := fun i o e => at_q (h i o e) (by omega)
noncomputable def lstE : ME := (eOp addF (eOp addF (eSl (eV 3) oN (oS (eV 10))) (eNew (vL (aC (eV 13) aN)))) (eNew (vL (aC (eC .non) (aC (eC .non) aN)))))
noncomputable def b12b : MS := (sSeq (sAs (eF m__law_draw (aC (eV 2) (aC (eC (.int 3)) aN))) (gN 10))
    (sIf (gcT2 (tOp2 (ownEqF true NF EQ) (eF m__law_told (aC lstE aN)) (eF reprAF (aC (eV 13) aN)))) (sRt (eC (.bl false))) sN))
theorem b12_eq : b_12 = sFor (iA (eV 12)) (gN 13) b12b := rfl
theorem lst_ok {xs ys : List PV} {i : Int} {t : PV} (h3 : τ[3]? = some (some (.obj 7))) (h10 : τ[10]? = some (some (.int i))) (h13 : τ[13]? = some (some t)) (hl : L[7]? = some (.lst xs)) (hx : cut xs none (some i) = ys) (hz : ys.length ≤ 10) :
    lstE τ L = .ok (.obj (L.length + 4)) (L ++ [.lst ys, .lst [t], .lst (ys ++ [t]), .lst [.non, .non], .lst (ys ++ [t] ++ [.non, .non])]) := by
  have e1 : eSl (eV 3) oN (oS (eV 10)) τ L = .ok (.obj L.length) (L ++ [.lst ys]) := by
    unfold eSl
    rw [x_v h3, bind_ok]
    show ((R.ok (none : Option Int) L).bind _) = _
    rw [bind_ok]
    unfold oS
    rw [x_v h10, bind_ok]
    show slF (.obj 7) none (some i) L = _
    unfold slF
    simp only [hl, hx]
  have e2 : eNew (vL (aC (eV 13) aN)) τ (L ++ [.lst ys]) = .ok (.obj (L.length + 1)) (L ++ [.lst ys, .lst [t]]) := by
    rw [x_new (x_vL (x_a (x_v h13) x_n))]
    simp
  have e3 : addF (.obj L.length) (.obj (L.length + 1)) (L ++ [.lst ys, .lst [t]]) = .ok (.obj (L.length + 2)) (L ++ [.lst ys, .lst [t], .lst (ys ++ [t])]) := by
    rw [x_add (xs := ys) (ys := [t]) at_new0 at_new (by simp; omega)]
    simp
  have e4 : eNew (vL (aC (eC .non) (aC (eC .non) aN))) τ (L ++ [.lst ys, .lst [t], .lst (ys ++ [t])]) = .ok (.obj (L.length + 3)) (L ++ [.lst ys, .lst [t], .lst (ys ++ [t]), .lst [.non, .non]]) := by
    rw [x_new (x_vL (x_a x_c (x_a x_c x_n)))]
    simp
  have e5 : addF (.obj (L.length + 2)) (.obj (L.length + 3)) (L ++ [.lst ys, .lst [t], .lst (ys ++ [t]), .lst [.non, .non]]) = .ok (.obj (L.length + 4)) (L ++ [.lst ys, .lst [t], .lst (ys ++ [t]), .lst [.non, .non], .lst (ys ++ [t] ++ [.non, .non])]) := by
    rw [x_add (xs := ys ++ [t]) (ys := [.non, .non]) at_new at_new (by simp; omega)]
    simp
  exact x_op (x_op e1 e2 e3) e4 e5
theorem test12 {t : PV} {i : Int} (hD : D.Ok) (hs : LsAt L 7 2 4 6 D.d1 D.d2 D.d3) (hT : HasT L n) (ht : t ∈ tl n) (i0 : 0 ≤ i) (i1 : i < 3) (h3 : τ[3]? = some (some (.obj 7))) (h10 : τ[10]? = some (some (.int i))) (h13 : τ[13]? = some (some t)) :
    sIf (gcT2 (tOp2 (ownEqF true NF EQ) (eF m__law_told (aC lstE aN)) (eF reprAF (aC (eV 13) aN)))) (sRt (eC (.bl false))) sN τ L = .nx τ L := by
  obtain ⟨r, hr, hb⟩ := bad_all ht
  have fin : ∀ J : LH, (eF m__law_told (aC lstE aN)) τ L = .ok (.str r) (L ++ J) → sIf (gcT2 (tOp2 (ownEqF true NF EQ) (eF m__law_told (aC lstE aN)) (eF reprAF (aC (eV 13) aN)))) (sRt (eC (.bl false))) sN τ L = .nx τ L := fun J e => by
    have e2 : eF reprAF (aC (eV 13) aN) τ (L ++ J) = .ok (.str r) (L ++ J) := x_f (x_a (x_v h13) x_n) (hb _ hT.app).2
    have e3 : ownEqF true NF EQ (.str r) (.str r) (L ++ J) = .ok (.bl false) (L ++ J) := by
      rw [own_no rfl]
      exact neF_refl hr (by show 1 ≤ 60; decide)
    exact x_gc0 (x_t (x_op e e2 e3))
  have c3 : i = 0 ∨ i = 1 ∨ i = 2 := by omega
  rcases c3 with rfl | rfl | rfl
  · have l := lst_ok (ys := []) h3 h10 h13 hs.l rfl (by decide)
    have b := bad_at (hT.app (J := [.lst [], .lst [t], .lst ([] ++ [t]), .lst [.non, .non], .lst ([] ++ [t] ++ [.non, .non])])) hb
    exact fin _ (x_f (x_a l x_n) (told_of (ys := []) b at_new (init_bad0 b _ _)))
  · have l := lst_ok (ys := [.obj 2]) h3 h10 h13 hs.l rfl (by decide)
    have b := bad_at (hT.app (J := [.lst [.obj 2], .lst [t], .lst ([.obj 2] ++ [t]), .lst [.non, .non], .lst ([.obj 2] ++ [t] ++ [.non, .non])])) hb
    exact fin _ (x_f (x_a l x_n) (told_of (ys := [.non]) b at_new (init_bad1 b (at_app hs.a) hD.o1 _)))
  · have l := lst_ok (ys := [.obj 2, .obj 4]) h3 h10 h13 hs.l rfl (by decide)
    have b := bad_at (hT.app (J := [.lst [.obj 2, .obj 4], .lst [t], .lst ([.obj 2, .obj 4] ++ [t]), .lst [.non, .non], .lst ([.obj 2, .obj 4] ++ [t] ++ [.non, .non])])) hb
    exact fin _ (x_f (x_a l x_n) (told_of (ys := [.non, .non]) b at_new (init_bad2 b (at_app hs.a) hD.o1 (at_app hs.b) hD.o2)))
theorem b12_ok (hD : D.Ok) (h : Pl s) (hs : LsAt (Q c s :: R) 7 2 4 6 D.d1 D.d2 D.d3) (hT : HasT (Q c s :: R) n) (hn : n ≠ 0) {p : Nat} (hp : (Q c s :: R)[p]? = some (.lst (tl n))) (hp0 : p ≠ 0) (x7 x10 x11 : Option PV) :
    ∃ x10' x13 L', b_12 (T2 sc kk x7 x10 x11 (some (.obj p)) none) (Q c s :: R) = .nx (T2 sc kk x7 x10' x11 (some (.obj p)) x13) L' := by
  have sl : (Src.at_ p).len (Q c s :: R) = (tl n).length := by simp only [Src.len, hp]
  obtain ⟨τ', L', e, c', s', x10', x13, _, rfl, rfl⟩ := for_gen (s := .at_ p) (xs := tl n) (mi := iA (eV 12)) (g := gN 13) (b := b12b) (L := Q c s :: R) (L0 := Q c s :: R) (τ := T2 sc kk x7 x10 x11 (some (.obj p)) none)
    (fun i τ L' => ∃ c' s' x10 x13, Pl s' ∧ τ = T2 sc kk x7 x10 x11 (some (.obj p)) x13 ∧ L' = Q c' s' :: R) (x_iA (x_v rfl) hp) sl (by
      rintro i τ L' ⟨c', s', x10, x13, _, rfl, rfl⟩
      exact reads_at (at_q hp hp0)) ⟨c, s, x10, none, h, rfl, rfl⟩ (by
      rintro i x τ L' hx ⟨c', s', x10, x13, h', rfl, rfl⟩
      obtain ⟨d, c2, s2, d0, d1, h2, e1⟩ := draw1 (H := R) (c := c') h' (m := 3) (by omega) (by omega)
      have t := test12 (τ := T2 sc kk x7 (some (.int d)) x11 (some (.obj p)) (some x)) (L := Q c2 s2 :: R) (t := x) (i := d) hD (hs.q (by decide)) (hT.q hn) (List.mem_of_getElem? hx) d0 d1 rfl rfl rfl
      exact ⟨T2 sc kk x7 x10 x11 (some (.obj p)) (some x), T2 sc kk x7 (some (.int d)) x11 (some (.obj p)) (some x), _, rfl, x_seq (x_as (x_f (x_a (x_v rfl) (x_a x_c x_n)) e1) rfl) t, c2, s2, _, _, h2, rfl, rfl⟩)
  exact ⟨x10', x13, _, by rw [b12_eq]; exact e⟩
end
theorem turn_ok (ns : List Int) (k : Nat) (hk : k < 100) : ∃ (τ : Sl) (L : LH), bodyL [some (.rol (ns.map .int)), some (.int k), none, none, none, none, none, none, none, none, none, none, none, none] [] = .nx τ L ∧ keepS [0] 0 τ = [some (.rol (ns.map .int)), none, none, none, none, none, none, none, none, none, none, none, none, none] := by
  obtain ⟨c, s, h, b0⟩ := b0_ok ns k hk [none, none, none, none, none, none, none, none, none, none, none]
  obtain ⟨D, c1, s1, hD, h1, b1⟩ := b1_ok (sc := .rol (ns.map .int)) (kk := k) (c := c) h
  have b2 := b2_ok (sc := .rol (ns.map .int)) (kk := k) (c := c1) (s := s1) hD
  have b3 := b3_ok (sc := .rol (ns.map .int)) (kk := k) (c := c1) (s := s1) hD
  obtain ⟨x7, b4⟩ := b4_ok (sc := .rol (ns.map .int)) (kk := k) (c := c1) (s := s1) (D := D) (x := D.d1.reverse) (y := D.d2.reverse) (z := D.d3.reverse) none
  have b5 := b5_ok (sc := .rol (ns.map .int)) (kk := k) (c := c1) (s := s1) hD x7
  have b6 := b6_ok (sc := .rol (ns.map .int)) (kk := k) (c := c1) (s := s1) hD x7
  have f := fx_e (c := c1) (s := s1) (D := D)
  have b7 := b7_ok (τ := T2 (.rol (ns.map .int)) k x7 none none none none) hD f rfl rfl
  have b8 := b8_ok (τ := T2 (.rol (ns.map .int)) k x7 none none none none) hD f rfl rfl rfl
  have b9 := b9_ok (τ := T2 (.rol (ns.map .int)) k x7 none none none none) hD f rfl rfl
  obtain ⟨x10, x11, J, b10⟩ := b10_ok (sc := .rol (ns.map .int)) (kk := k) hD f x7
  have b11 := b11_ok (sc := .rol (ns.map .int)) (kk := k) (L := Le c1 s1 D ++ J) x7 x10 x11
  obtain ⟨R, hR⟩ : ∃ R, Le c1 s1 D ++ J ++ (things ++ [.lst (tl (Le c1 s1 D ++ J).length)]) = Q c1 s1 :: R := ⟨_, rfl⟩
  have hT : HasT (Q c1 s1 :: R) (Le c1 s1 D ++ J).length := by
    rw [← hR]
    intro i o e
    rw [at_new]
    exact at_app e
  have hs := (f.some.app (J := J)).app (J := things ++ [.lst (tl (Le c1 s1 D ++ J).length)])
  have hp : (Le c1 s1 D ++ J ++ (things ++ [LO.lst (tl (Le c1 s1 D ++ J).length)]))[(Le c1 s1 D ++ J).length + 10]? = some (.lst (tl (Le c1 s1 D ++ J).length)) := at_new
  rw [hR] at hs hp b11
  have hn : (Le c1 s1 D ++ J).length ≠ 0 := by
    have := (f.app (J := J)).lt
    omega
  obtain ⟨x10', x13, L', b12⟩ := b12_ok (sc := .rol (ns.map .int)) (kk := k) hD h1 hs hT hn hp (by omega) x7 x10 x11
  exact ⟨_, _, x_seq b0 (x_seq b1 (x_seq b2 (x_seq b3 (x_seq b4 (x_seq b5 (x_seq b6 (x_seq b7 (x_seq b8 (x_seq b9 (x_seq b10 (x_seq b11 b12))))))))))), rfl⟩
theorem refBs_ints (n : Nat) (ns : List Int) : refBs n (ns.map .int) = true := by
  induction ns with
  | nil => rfl
  | cons a l ih => simp [refBs, refB, ih]
theorem loop_same {xs : List PV} {g : MG} {b : MS} {τ0 : Sl} {L : LH} (hb : ∀ x ∈ xs, ∃ τ1, g x τ0 L = .ok τ1 L ∧ b τ1 L = .nx τ0 L) : ∀ n i, i ≤ xs.length → i + n = xs.length + 1 → loop (.vals xs) g b n i τ0 L = .nx τ0 L
  | 0, i, h1, h => by omega
  | n + 1, i, h1, h => by
    unfold loop
    by_cases hi : i < xs.length
    · obtain ⟨τ1, e1, e2⟩ := hb xs[i] (List.getElem_mem hi)
      have hg : (Src.vals xs).get L i = some (some xs[i]) := by simp [Src.get, hi]
      rw [hg]
      dsimp only
      rw [e1]
      dsimp only
      rw [e2]
      exact loop_same hb n (i + 1) (by omega) (by omega)
    · have hg : (Src.vals xs).get L i = some none := by simp [Src.get]; omega
      rw [hg]
abbrev tb (ns : List Int) : Sl := [some (.rol (ns.map .int)), none, none, none, none, none, none, none, none, none, none, none, none, none]
theorem body_ok (ns : List Int) (k : Nat) (hk : k < 100) : bodyG [some (.rol (ns.map .int)), some (.int k), none, none, none, none, none, none, none, none, none, none, none, none] [] = .nx (tb ns) [] := by
  obtain ⟨τ, L, e, ek⟩ := turn_ok ns k hk
  unfold bodyG gcS
  rw [e]
  show gcK [0] [] τ L .nx = _
  unfold gcK
  rw [ek]
  rw [if_pos ⟨rfl, Nat.zero_le _, by simp [refT, refB, refBs_ints]⟩]
  rfl
theorem law_ok (ns : List Int) (hn : ns.length ≤ 63) : m_law [.rol (ns.map .int)] [] = .ok (.bl true) [] := by
  rw [m_law_eq]
  refine x_fn rfl (x_seq (L1 := []) (τ' := tb ns) ?_ rfl)
  have lenE : lenF [.rol (ns.map .int)] [] = .ok (.int ns.length) [] := by
    unfold lenF
    simp
  have hm : ∃ m : Nat, m ≤ 64 ∧ iR1 (aC (eF max2F (aC (eC (.int 1)) (aC (eF min2F (aC (eF lenF (aC (eV 0) aN)) (aC (eC (.int 8)) aN))) aN))) aN) (tb ns) [] = .ok (.vals ((List.range m).map fun k => .int (0 + (k : Nat)))) [] := by
    have e : ∃ j : Int, 0 ≤ j ∧ j ≤ 64 ∧ aC (eF max2F (aC (eC (.int 1)) (aC (eF min2F (aC (eF lenF (aC (eV 0) aN)) (aC (eC (.int 8)) aN))) aN))) aN (tb ns) [] = .ok [.int j] [] := by
      refine ⟨_, ?_, ?_, x_a (x_f (x_a x_c (x_a (x_f (x_a (x_f (x_a (x_v rfl) x_n) lenE) (x_a x_c x_n)) rfl) x_n)) rfl) x_n⟩
      · split <;> split <;> omega
      · split <;> split <;> omega
    obtain ⟨j, j0, j1, e⟩ := e
    refine ⟨j.toNat, by omega, ?_⟩
    unfold iR1
    rw [e]
    exact if_pos ⟨by omega, by omega⟩
  obtain ⟨m, hm64, em⟩ := hm
  unfold a_0 sFor
  rw [show (startP 14 [PV.rol (List.map PV.int ns)] : Sl) = tb ns from rfl, em]
  refine loop_same (fun x hx => ?_) _ _ (Nat.zero_le _) (by show 0 + ((List.map _ _).length + 1) = _; omega)
  obtain ⟨k, hk, rfl⟩ := List.mem_map.mp hx
  have hk' : k < m := List.mem_range.mp hk
  refine ⟨_, rfl, ?_⟩
  have := body_ok ns k (by omega)
  rw [show (0 : Int) + (k : Nat) = (k : Int) from Int.zero_add _]
  exact this
end K16
namespace KH16
open PySem PySem.Spec PyProof.Rows L2 FL K16
theorem fok_value : PySem.MEX.FOk1 "value" := ⟨by decide, rfl, by decide, rfl, rfl, fun _ _ _ _ _ _ _ _ _ _ _ _ => rfl, fun _ _ _ _ _ _ _ _ _ _ _ _ => rfl⟩
theorem facts {w : World} {K : PySem.W.Frag} {h : Heap} {mg : Str → Option Value} {f : Addr} (X : K.In h) (G : h.Ns mainGlobals mg) (hfa : mg ("law" : Str) = some (.ref f)) (c : MCH.SaysR R.prog bmF fa fn pps es ts tfs ex0 w h K) :
    ∃ fd : FuncData, (∀ (s : Shared) (v : Value), BindsTo s fd ⟨[v], []⟩ [("_law_script", v)]) ∧ ∀ base : Heap, K.In base → base.Ns mainGlobals mg → (∀ p ∈ tfs.map (He.cT K), LamX.TabB base mg p.1 p.2) → FnG R.prog w K mg base (L2.CX R.prog w) 7 f fd ["_law_script"] (spM 1 K (gaK K) m_law) := by
  obtain ⟨e0, F0⟩ := c.p.m.d.def_ 0 (d := dd0) rfl
  obtain ⟨e1, F1⟩ := c.p.m.d.def_ 1 (d := dd1) rfl
  obtain ⟨e2, F2⟩ := c.p.m.d.def_ 2 (d := dd2) rfl
  obtain ⟨e3, F3⟩ := c.p.m.d.def_ 3 (d := dd3) rfl
  obtain ⟨e4, F4⟩ := c.p.m.d.def_ 4 (d := dd4) rfl
  obtain ⟨e5, F5⟩ := c.p.m.d.def_ 5 (d := dd5) rfl
  obtain ⟨e6, F6⟩ := c.p.m.d.def_ 6 (d := dd6) rfl
  obtain ⟨e7, F7⟩ := c.p.m.d.def_ 7 (d := dd7) rfl
  obtain ⟨e8, F8⟩ := c.p.m.d.def_ 8 (d := dd8) rfl
  obtain ⟨e9, F9⟩ := c.p.m.d.def_ 9 (d := dd9) rfl
  obtain ⟨e10, F10⟩ := c.p.m.d.def_ 10 (d := dd10) rfl
  obtain ⟨e11, F11⟩ := c.p.m.d.def_ 11 (d := dd11) rfl
  obtain ⟨e12, F12⟩ := c.p.m.d.def_ 12 (d := dd12) rfl
  obtain ⟨e13, F13⟩ := c.p.m.d.def_ 13 (d := dd13) rfl
  obtain ⟨c0, d0⟩ := c.p.p pp0 (by simp [pps])
  obtain ⟨O0, g0, X0⟩ := MCH.pB_ok d0 c0
  obtain ⟨c1, d1⟩ := c.p.p pp1 (by simp [pps])
  obtain ⟨O1, g1, X1⟩ := MCH.pB_ok d1 c1
  obtain ⟨c2, d2⟩ := c.p.p pp2 (by simp [pps])
  obtain ⟨O2, g2, X2⟩ := MCH.pB_ok d2 c2
  have e := hfa.symm.trans (He.glo_ok X G (c.p.m.d.fact 9 (f := .glo "law") rfl))
  cases e
  obtain ⟨y0, z0⟩ := He.ba c.e
  obtain ⟨y1, z1⟩ := He.ba z0
  obtain ⟨y2, z2⟩ := He.ba z1
  obtain ⟨y3, z3⟩ := He.ba z2
  obtain ⟨y4, z4⟩ := He.ba z3
  obtain ⟨y5, z5⟩ := He.ba z4
  obtain ⟨y6, z6⟩ := He.ba z5
  obtain ⟨y7, z7⟩ := He.ba z6
  obtain ⟨y8, z8⟩ := He.ba z7
  have y9 := z8
  have htop : (R.prog.main.scope.names.lookup ("super" : Str)).isSome = false := by decide +kernel
  obtain ⟨xe1, xe2⟩ := excB_ok (ga := gaK K) y8
  obtain ⟨p0, q0⟩ := c.x ee0 (by simp)
  obtain ⟨C0, n0, b0⟩ := MCH.eB_ok X G p0 htop PySem.MEX.baseV
  have G0 := MCH.eFn1_ok b0 n0 q0 fok_value rfl rfl rfl rfl rfl
  have b := FunD.bindsA (ps := ["_law_script"]) F9 fun _ _ _ _ _ _ us hl => match us, hl with | [_], _ => rfl
  refine ⟨e9, fun s v => b s [v] rfl, fun base _ _ hTB => ?_⟩
  have hE : En R.prog w K mg base (gaK K) := {
    f_Rows_eq := fdA_of F10,
    q_Rows_eq := He.meth_ok (c.p.m.d.fact 30 (f := .meth "Rows" "__eq__") rfl),
    fi_Rows_eq := fnIn_of F10,
    f_Rows_lay := fdA_of F11,
    q_Rows_lay := He.meth_ok (c.p.m.d.fact 31 (f := .meth "Rows" "lay") rfl),
    fi_Rows_lay := fnIn_of F11,
    f_is_integer := fdA_of F0,
    m_is_integer := He.glo_ok X G (c.p.m.d.fact 0 (f := .glo "is_integer") rfl),
    f_is_count := fdA_of F1,
    m_is_count := He.glo_ok X G (c.p.m.d.fact 1 (f := .glo "is_count") rfl),
    f_is_dict_of_numbers := fdA_of F2,
    m_is_dict_of_numbers := He.glo_ok X G (c.p.m.d.fact 2 (f := .glo "is_dict_of_numbers") rfl),
    f_Rows_init := fdA_of F12,
    f_Rows_answers := fdA_of X0,
    p_Rows_answers := O0,
    f_Rows_fails := fdA_of X1,
    p_Rows_fails := O1,
    f_greater := fdA_of F3,
    m_greater := He.glo_ok X G (c.p.m.d.fact 3 (f := .glo "greater") rfl),
    f_greatest := fdA_of F4,
    m_greatest := He.glo_ok X G (c.p.m.d.fact 4 (f := .glo "greatest") rfl),
    f_Rows_greatest := fdA_of F13,
    q_Rows_greatest := He.meth_ok (c.p.m.d.fact 32 (f := .meth "Rows" "greatest") rfl),
    fi_Rows_greatest := fnIn_of F13,
    f_Rows_stops := fdA_of X2,
    p_Rows_stops := O2,
    f__law_draw := fdA_of F5,
    m__law_draw := He.glo_ok X G (c.p.m.d.fact 5 (f := .glo "_law_draw") rfl),
    f__law_drawn := fdA_of F6,
    m__law_drawn := He.glo_ok X G (c.p.m.d.fact 6 (f := .glo "_law_drawn") rfl),
    f__law_pool := fdA_of F7,
    m__law_pool := He.glo_ok X G (c.p.m.d.fact 7 (f := .glo "_law_pool") rfl),
    f__law_told := fdA_of F8,
    m__law_told := He.glo_ok X G (c.p.m.d.fact 8 (f := .glo "_law_told") rfl),
    f_law := fdA_of F9,
    m_law := He.glo_ok X G (c.p.m.d.fact 9 (f := .glo "law") rfl),
    m_Rows := He.glo_ok X G (c.p.m.d.fact 10 (f := .glo "Rows") rfl),
    k_Rows := sclB_ok y0,
    i_Rows := He.mkr_ok (c.p.m.d.fact 29 (f := .mkr "Rows") rfl),
    x_InvalidRows := ⟨C0, xe2 "InvalidRows" (by decide), (xe1 "InvalidRows" (by decide) "InvalidRows" (by decide)).trans (by decide)⟩,
    g_InvalidRows := G0,
    n_InvalidRows_value := G0.no1,
    ex := xe1,
    b_dict := He.free_ok X G (c.p.m.d.fact 11 (f := .free "dict") rfl),
    b_zip := He.free_ok X G (c.p.m.d.fact 12 (f := .free "zip") rfl),
    b_isinstance := He.free_ok X G (c.p.m.d.fact 13 (f := .free "isinstance") rfl),
    b_len := He.free_ok X G (c.p.m.d.fact 14 (f := .free "len") rfl),
    b_all := He.free_ok X G (c.p.m.d.fact 15 (f := .free "all") rfl),
    b_any := He.free_ok X G (c.p.m.d.fact 16 (f := .free "any") rfl),
    b_sum := He.free_ok X G (c.p.m.d.fact 17 (f := .free "sum") rfl),
    b_max := He.free_ok X G (c.p.m.d.fact 18 (f := .free "max") rfl),
    b_min := He.free_ok X G (c.p.m.d.fact 19 (f := .free "min") rfl),
    b_repr := He.free_ok X G (c.p.m.d.fact 20 (f := .free "repr") rfl),
    b_int := He.free_ok X G (c.p.m.d.fact 21 (f := .free "int") rfl),
    b_bool := He.free_ok X G (c.p.m.d.fact 22 (f := .free "bool") rfl),
    b_str := He.free_ok X G (c.p.m.d.fact 23 (f := .free "str") rfl),
    b_tuple := He.free_ok X G (c.p.m.d.fact 24 (f := .free "tuple") rfl),
    b_list := He.free_ok X G (c.p.m.d.fact 25 (f := .free "list") rfl),
    b_range := He.free_ok X G (c.p.m.d.fact 26 (f := .free "range") rfl),
    b_enumerate := He.free_ok X G (c.p.m.d.fact 27 (f := .free "enumerate") rfl),
    b_sorted := He.free_ok X G (c.p.m.d.fact 28 (f := .free "sorted") rfl),
    ne_Rows := (eqcB_ok y6).1,
    ob_Rows := (eqcB_ok y6).2.1,
    nf_Rows := (eqcB_ok y6).2.2,
    sl_own_answers := slt1 (C := "Rows") (sclB_ok y0) y2,
    sl_own_fails := slt1 (C := "Rows") (sclB_ok y0) y3,
    sl_own_stops := slt1 (C := "Rows") (sclB_ok y0) y4,
    kits := kits1 (C := "Rows") (sclB_ok y0) y1,
    m_greatest_rows := ali_ok X G y5,
    kit := kitB_ok y7 (fun C hC => by cases hC) }
  have hW := w_law hE
  have ee : fdA K (He.ga K "law") = e9 := by
    obtain ⟨oc, od, dV, kV, doc, pm, an, cdv, ct, osl, z, lk, _⟩ := F9.ex
    unfold fdA
    rw [show K.lookup (He.ga K "law") = _ from lk]
  rw [← ee]
  exact hW
end KH16
open PySem PySem.W PySem.Calls PyProof.Rows
set_option maxRecDepth 100000 in
set_option maxHeartbeats 0 in
theorem PySem.Challenge.cw_mostcalls_k16_rows_holds : PySem.Challenge.rw_mostcalls_k16_rows.Holds := by
  w_on; o_law
  refine HandSHeadRun.head_any (r := OpenLaw.row PySem.Challenge.rw_mostcalls_k16_rows) (q := view (OpenLaw.row PySem.Challenge.rw_mostcalls_k16_rows).prog [17]) (H := KH16.hk) (ob := KH16.ob) (M := 20000) (loose := KH16.names) (d := HandSHeadRun.topDef (OpenLaw.row PySem.Challenge.rw_mostcalls_k16_rows).prog 17) (kwd := []) KH16.ob_eq
    (by kernel_rfl) (fun s => by kernel_rfl) KH16.run (by kernel_rfl) (by kernel_rfl) (by kernel_rfl) (by rfl) (by first | assumption | decide +kernel) (by decide +kernel) ⟨rfl, rfl, rfl, rfl, rfl, by decide +kernel⟩ ?hw ?hc
  case hw => w_witness2
  case hc =>
    refine FL.walk_ofR (l := PySem.Challenge.rw_mostcalls_k16_rows) (n := 63) (k := 7) (x := "_law_script") (CX := fun w => L2.CX KH16.R.prog w) rfl (by decide) (by kernel_rfl) ⟨rfl, by decide, by decide⟩ ?F (fun _ _ _ _ _ ⟨_, _, _, _, _, _, _, _, _, _, _, _, q⟩ => q)
    intro w mg fa h Y G hmg0
    obtain ⟨K, KX, c⟩ := Y
    have hmg : mg ("law" : PySem.Str) = some (.ref fa) := by
      have e : (HandSHeadRun.topDef (OpenLaw.row PySem.Challenge.rw_mostcalls_k16_rows).prog 17).name = ("law" : PySem.Str) := by kernel_rfl
      rw [← e]
      exact hmg0
    obtain ⟨fd, hb, hF⟩ := KH16.facts (w := w) KX G hmg c
    refine ⟨K, fd, KH16.tfs.map (He.cT K), FL.spM 1 K (KH16.gaK K) K16.m_law, KX, hb, fun p hp => ?_, fun H a ns hl hT hS => FL.end_sp (fun p hp => ?_) hS (K16.law_ok ns hl), hF⟩
    · obtain ⟨d, hd, rfl⟩ := List.mem_map.mp hp
      obtain ⟨z1, z2, z3⟩ := c.c d hd
      exact ⟨z3, z2, PySem.W.codeHd_of_K KX z1⟩
    · obtain ⟨d, hd, rfl⟩ := List.mem_map.mp hp
      exact LamX.TabS.nil (hT (He.cT K d) (List.mem_map.mpr ⟨d, hd, rfl⟩))
#print axioms PySem.Challenge.cw_mostcalls_k16_rows_holds
